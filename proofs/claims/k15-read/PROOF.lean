import PyProof.Rows.All
import Wide.All
import OpenK.AllK
import Wide.FinOn
import HandS.ForMost
import HandS.SortKw
import HandS.Deep
import HandS.IsInst
import HandS.Codes
import HandS.Replace
import HandS.ExcCtx
import HandS.ExcIs
import HandS.HotCalls
import KE.RegKIsAll
import KE.GoesComp
import PySem.Challenge.RW_bitebar_k15_read
set_option Elab.async false
set_option linter.all false
set_option maxRecDepth 100000
set_option maxHeartbeats 8000000
namespace Bb
open PySem PySem.Spec PyProof.Rows L2
/-! ### bars, bites -/
/-- a bar of at most m rows of at most m pieces -/
structure IsBar (m : Int) (b : List Int) : Prop where
  ne : 1 ≤ b.length
  le : (b.length : Int) ≤ m
  pw : b.Pairwise (· ≥ ·)
  rg : ∀ x ∈ b, 1 ≤ x ∧ x ≤ m
theorem IsBar.mono {m n : Int} {b : List Int} (h : IsBar m b) (hn : m ≤ n) : IsBar n b :=
  ⟨h.ne, Int.le_trans h.le hn, h.pw, fun x hx => ⟨(h.rg x hx).1, Int.le_trans (h.rg x hx).2 hn⟩⟩
/-- each row from 1 on, none greater than the one ahead -/
def falls (m : Int) : List Int → Bool
  | [] => true
  | x :: xs => decide (1 ≤ x ∧ x ≤ m) && falls x xs
def isBarB (b : List Int) : Bool := decide (1 ≤ b.length ∧ b.length ≤ 5) && falls 5 b
theorem falls_iff {m : Int} {b : List Int} : falls m b = true ↔ b.Pairwise (· ≥ ·) ∧ ∀ x ∈ b, 1 ≤ x ∧ x ≤ m := by
  induction b generalizing m with
  | nil => simp [falls]
  | cons x xs ih =>
    rw [falls, Bool.and_eq_true, decide_eq_true_eq, ih, List.pairwise_cons]
    constructor
    · rintro ⟨⟨h1, h2⟩, h3, h4⟩
      refine ⟨⟨fun y hy => (h4 y hy).2, h3⟩, fun y hy => ?_⟩
      rcases List.mem_cons.mp hy with rfl | hy
      · exact ⟨h1, h2⟩
      · exact ⟨(h4 y hy).1, Int.le_trans (h4 y hy).2 h2⟩
    · rintro ⟨⟨h1, h2⟩, h3⟩
      exact ⟨h3 x (List.mem_cons_self), h2, fun y hy => ⟨(h3 y (List.mem_cons_of_mem _ hy)).1, h1 y hy⟩⟩
theorem isBarB_iff {b : List Int} : isBarB b = true ↔ IsBar 5 b := by
  unfold isBarB
  rw [Bool.and_eq_true, decide_eq_true_eq, falls_iff]
  constructor
  · rintro ⟨⟨h1, h2⟩, h3, h4⟩
    exact ⟨h1, by omega, h3, h4⟩
  · rintro ⟨h1, h2, h3, h4⟩
    exact ⟨⟨h1, by omega⟩, h3, h4⟩
/-- the bites of row r, columns below n -/
def rowL (r : Nat) : Nat → List (Nat × Nat)
  | 0 => []
  | n + 1 => rowL r n ++ if 0 < r + n then [(r, n)] else []
def bitesFrom (r : Nat) : List Int → List (Nat × Nat)
  | [] => []
  | x :: xs => rowL r x.toNat ++ bitesFrom (r + 1) xs
def bitesL (b : List Int) : List (Nat × Nat) := bitesFrom 0 b
theorem bitesFrom_append (r : Nat) : ∀ (xs ys : List Int), bitesFrom r (xs ++ ys) = bitesFrom r xs ++ bitesFrom (r + xs.length) ys := by
  intro xs
  induction xs generalizing r with
  | nil => intro ys; simp [bitesFrom]
  | cons x xs ih =>
    intro ys
    rw [List.cons_append, bitesFrom, bitesFrom, ih, List.append_assoc, List.length_cons, Nat.add_assoc, Nat.add_comm 1 xs.length]
theorem take_more {α : Type} {l : List α} {i : Nat} {x : α} (h : l[i]? = some x) : l.take (i + 1) = l.take i ++ [x] := by
  rw [List.take_add_one, h]; rfl
theorem bitesL_more {b : List Int} {i : Nat} {x : Int} (h : b[i]? = some x) : bitesL (b.take (i + 1)) = bitesL (b.take i) ++ rowL i x.toNat := by
  have hi : i < b.length := (List.getElem?_eq_some_iff.mp h).1
  unfold bitesL
  rw [take_more h, bitesFrom_append, List.length_take, Nat.min_eq_left (Nat.le_of_lt hi), Nat.zero_add]
  simp [bitesFrom]
theorem rowL_len (r n : Nat) : (rowL r n).length ≤ n := by
  induction n with
  | zero => simp [rowL]
  | succ n ih => rw [rowL, List.length_append]; split <;> simp <;> omega
theorem mem_rowL {r n : Nat} {p : Nat × Nat} : p ∈ rowL r n ↔ p.1 = r ∧ p.2 < n ∧ 0 < r + p.2 := by
  induction n with
  | zero => simp [rowL]
  | succ n ih =>
    rw [rowL, List.mem_append, ih]
    obtain ⟨a, c⟩ := p
    constructor
    · rintro (⟨h1, h2, h3⟩ | h)
      · exact ⟨h1, by omega, h3⟩
      · split at h
        · simp at h; obtain ⟨h1, h2⟩ := h; subst h1 h2; exact ⟨rfl, by simp, by assumption⟩
        · cases h
    · rintro ⟨h1, h2, h3⟩
      simp only at h1 h2 h3
      subst h1
      by_cases e : c = n
      · subst e; right; rw [if_pos h3]; simp
      · left; exact ⟨rfl, by simp only; omega, h3⟩
theorem mem_bitesFrom {r : Nat} {b : List Int} {p : Nat × Nat} : p ∈ bitesFrom r b ↔ ∃ i x, b[i]? = some x ∧ p.1 = r + i ∧ (p.2 : Int) < x ∧ 0 < p.1 + p.2 := by
  induction b generalizing r with
  | nil => simp [bitesFrom]
  | cons y ys ih =>
    rw [bitesFrom, List.mem_append, mem_rowL, ih]
    constructor
    · rintro (⟨h1, h2, h3⟩ | ⟨i, x, h1, h2, h3, h4⟩)
      · exact ⟨0, y, rfl, by omega, by omega, by omega⟩
      · exact ⟨i + 1, x, by simpa using h1, by omega, h3, h4⟩
    · rintro ⟨i, x, h1, h2, h3, h4⟩
      cases i with
      | zero =>
        left
        have e : y = x := by simpa using h1
        subst e
        exact ⟨by omega, by omega, by omega⟩
      | succ i =>
        right
        exact ⟨i, x, by simpa using h1, by omega, h3, h4⟩
theorem mem_bitesL {b : List Int} {p : Nat × Nat} : p ∈ bitesL b ↔ ∃ x, b[p.1]? = some x ∧ (p.2 : Int) < x ∧ 0 < p.1 + p.2 := by
  unfold bitesL
  rw [mem_bitesFrom]
  constructor
  · rintro ⟨i, x, h1, h2, h3, h4⟩
    have e : p.1 = i := by omega
    subst e
    exact ⟨x, h1, h3, h4⟩
  · rintro ⟨x, h1, h2, h3⟩
    exact ⟨p.1, x, h1, by omega, h2, h3⟩
theorem bitesFrom_len (r : Nat) : ∀ (b : List Int), (∀ x ∈ b, x ≤ 5) → (bitesFrom r b).length ≤ 5 * b.length := by
  intro b
  induction b generalizing r with
  | nil => intro _; simp [bitesFrom]
  | cons x xs ih =>
    intro h
    have h1 := rowL_len r x.toNat
    have h2 := ih (r + 1) fun y hy => h y (List.mem_cons_of_mem _ hy)
    have h3 := h x List.mem_cons_self
    rw [bitesFrom, List.length_append, List.length_cons]
    omega
theorem bitesL_len {b : List Int} (h : IsBar 5 b) : (bitesL b).length ≤ 25 := by
  have := bitesFrom_len 0 b fun x hx => (h.rg x hx).2
  have := h.le
  unfold bitesL
  omega
theorem bitesL_take_len {b : List Int} (h : IsBar 5 b) (i : Nat) : (bitesL (b.take i)).length ≤ 25 := by
  have := bitesFrom_len 0 (b.take i) fun x hx => (h.rg x (List.mem_of_mem_take hx)).2
  have := h.le
  have : (b.take i).length ≤ b.length := by rw [List.length_take]; omega
  unfold bitesL
  omega
/-- the bar behind a bite -/
def behindL (b : List Int) (r c : Nat) : List Int := b.take r ++ if 0 < c then (b.drop r).map fun x => min x (c : Int) else []
/-! ### heaps -/
theorem sNew {H : Hp} {p : Addr} {o : HO} (h : H p = none) : Same H (upd H p o) := fun b x e => by
  rw [upd_ne (ne_of_none e h)]
  exact e
theorem sThen {H0 H : Hp} {p : Addr} {o : HO} (s : Same H0 H) (h : H p = none) : Same H0 (upd H p o) := s.trans (sNew h)
/-- an object that was not there at the start is written -/
theorem sPut {H0 H : Hp} {p : Addr} {o : HO} (s : Same H0 H) (h : H0 p = none) : Same H0 (upd H p o) := fun b x e => by
  rw [upd_ne (ne_of_none e h)]
  exact s b x e
/-- the tuples stay -/
def KT (H H' : Hp) : Prop := ∀ t xs, H t = some (.tup xs) → H' t = some (.tup xs)
theorem KT.refl (H : Hp) : KT H H := fun _ _ h => h
theorem KT.trans {H H1 H2 : Hp} (a : KT H H1) (b : KT H1 H2) : KT H H2 := fun t xs h => b t xs (a t xs h)
theorem KT.same {H H' : Hp} (s : Same H H') : KT H H' := fun t xs h => s _ _ h
theorem KT.new {H : Hp} {p : Addr} {o : HO} (h : H p = none) : KT H (upd H p o) := KT.same (sNew h)
theorem KT.lst {H : Hp} {p : Addr} {o : HO} {xs : List V} (h : H p = some (.lst xs)) : KT H (upd H p o) := fun t ys e => by
  rw [upd_ne (ne_of e h (by intro q; cases q))]
  exact e
theorem KT.dK {H : Hp} {p : Addr} {o : HO} {xs : List (Key × V)} (h : H p = some (.dK xs)) : KT H (upd H p o) := fun t ys e => by
  rw [upd_ne (ne_of e h (by intro q; cases q))]
  exact e
theorem KT.dT {H : Hp} {p : Addr} {o : HO} {xs : List (List Key × V)} (h : H p = some (.dT xs)) : KT H (upd H p o) := fun t ys e => by
  rw [upd_ne (ne_of e h (by intro q; cases q))]
  exact e
/-- a list of tuples of ints -/
abbrev TL (H : Hp) (xs : List V) (ds : List (List Int)) : Prop := Paired (fun (x : V) (d : List Int) => ∃ t, x = .ref t ∧ H t = some (.tup (d.map V.int))) xs ds
theorem TL.keep {H H' : Hp} (k : KT H H') {xs : List V} {ds : List (List Int)} (h : TL H xs ds) : TL H' xs ds :=
  Paired.mapP h fun _ _ ⟨t, e, z⟩ => ⟨t, e, k _ _ z⟩
theorem TL.nil {H : Hp} : TL H [] [] := Paired.nil
theorem TL.length {H : Hp} {xs : List V} {ds : List (List Int)} (h : TL H xs ds) : xs.length = ds.length := Paired.length h
theorem TL.append {H : Hp} {xs ys : List V} {ds es : List (List Int)} (h : TL H xs ds) (h' : TL H ys es) : TL H (xs ++ ys) (ds ++ es) := by
  induction h with
  | nil => exact h'
  | cons r _ ih => exact Paired.cons r ih
theorem TL.snoc {H : Hp} {xs : List V} {ds : List (List Int)} {t : Addr} {d : List Int} (h : TL H xs ds) (e : H t = some (.tup (d.map V.int))) : TL H (xs ++ [.ref t]) (ds ++ [d]) :=
  h.append (Paired.cons ⟨t, rfl, e⟩ Paired.nil)
theorem TL.get {H : Hp} : ∀ {xs : List V} {ds : List (List Int)} {i : Nat} {d : List Int}, TL H xs ds → ds[i]? = some d → ∃ t, xs[i]? = some (.ref t) ∧ H t = some (.tup (d.map V.int))
  | _, _, i, d, Paired.nil, e => by simp at e
  | _, _, 0, d, Paired.cons ⟨t, h1, h2⟩ _, e => by
    obtain rfl := Option.some.inj e
    exact ⟨t, by rw [h1]; rfl, h2⟩
  | _, _, i + 1, d, Paired.cons _ r, e => by
    obtain ⟨t, h1, h2⟩ := TL.get (i := i) r (by simpa using e)
    exact ⟨t, by simpa using h1, h2⟩
/-- a bite's place -/
def pr (p : Nat × Nat) : List Int := [(p.1 : Int), (p.2 : Int)]
theorem small {n : Nat} (h : n ≤ 100000) : n ≤ sizeLine := Nat.le_trans h (by rw [sizeLine_eq]; decide)
theorem small' {n : Nat} (h : n ≤ 100000) : n < sizeLine := Nat.lt_of_le_of_lt h (by rw [sizeLine_eq]; decide)
theorem map_get {ns : List Int} {i : Nat} {y : V} (h : (ns.map V.int)[i]? = some y) : ∃ z, ns[i]? = some z ∧ y = V.int z := by
  rw [List.getElem?_map] at h
  cases e : ns[i]? with
  | none => rw [e] at h; cases h
  | some z => rw [e] at h; exact ⟨z, rfl, (Option.some.inj h).symm⟩
theorem get_map {ns : List Int} {i : Nat} {z : Int} (h : ns[i]? = some z) : (ns.map V.int)[i]? = some (V.int z) := by
  rw [List.getElem?_map, h]; rfl
theorem at_map {ns : List Int} {i : Nat} {z : Int} (h : ns[i]? = some z) : atI (ns.map V.int) (i : Int) = some (V.int z) := atI_nat (get_map h)
theorem in62 {n : Nat} (h : n ≤ 100000) : -(2 ^ 62) ≤ (n : Int) ∧ (n : Int) < 2 ^ 62 := by
  constructor <;> omega
/-! ### calls -/
structure Cal (P : Program) (w : World) (K : PySem.W.Frag) (mg : Str → Option Value) (base : Heap) (CX : CXT) (k : Nat) (x : Str) (ps : List Str) (sp : Sp) : Prop where
  ex : ∃ (f : Addr) (fd : FuncData), FnOk P w K mg base CX k f fd ps sp ∧ mg x = some (.ref f) ∧ PySem.W.keepIn K (.ref f) = true ∧ Binds K fd ps []
theorem pe_c {X : Cx} {CX : CXT} {k j : Nat} {x : Str} {ps : List Str} {sp : Sp} {E : XK} {e : Expr} {es : List Expr} {t : TA} {p pos : Pos} (C : Cal X.prog X.w X.K X.mg X.base CX k x ps sp) (hr : Room j X.A) (hj : k ≤ j) (hx : Passes CX X E) (ha : PA X (e :: es) t)
    (hg : Gl X x := by rfl) (hdb : (x == ("__debug__" : Str)) = false := by decide) (he : starEach (e :: es) X.env = (false, eval e X.env) :: starEach es X.env := by rfl) (hpl : (backTo pos (starEach es X.env)).any (·.1) = false := by rfl) :
    PE X (.Call (.Name x p) (e :: es) [] pos) (tCall sp [] E t) := by
  obtain ⟨f, fd, F, gm, kp, bd⟩ := C.ex
  exact pe_call F (hr.mono hj) hg gm kp bd .nil hx ha hdb he hpl
/-- a comprehension without a test -/
theorem yesT {σ : L2.St} {H : Hp} {A B : Hp → Prop} (h : A H) : tYes σ H (fun b H' => if b = true then A H' else B H') := by
  show if true = true then A H else B H
  rw [if_pos rfl]
  exact h
/-! ### tests whose answer is known -/
theorem dT_ {p : Prop} [Decidable p] {A B : Prop} (h : p) (x : A) : if decide p = true then A else B := by
  rw [if_pos (decide_eq_true h)]
  exact x
theorem dF_ {p : Prop} [Decidable p] {A B : Prop} (h : ¬ p) (x : B) : if decide p = true then A else B := by
  rw [if_neg (by rw [decide_eq_false h]; exact Bool.false_ne_true)]
  exact x
theorem nT_ {p : Prop} [Decidable p] {A B : Prop} (h : ¬ p) (x : A) : if (!decide p) = true then A else B := by
  rw [if_pos (by rw [decide_eq_false h]; rfl)]
  exact x
theorem nF_ {p : Prop} [Decidable p] {A B : Prop} (h : p) (x : B) : if (!decide p) = true then A else B := by
  rw [if_neg (by rw [decide_eq_true h]; exact Bool.false_ne_true)]
  exact x
/-- ways by a test -/
theorem d2_ {p : Prop} [Decidable p] {A B : Prop} (x : p → A) (y : ¬ p → B) : if decide p = true then A else B := by
  by_cases h : p
  · exact dT_ h (x h)
  · exact dF_ h (y h)
theorem n2_ {p : Prop} [Decidable p] {A B : Prop} (x : ¬ p → A) (y : p → B) : if (!decide p) = true then A else B := by
  by_cases h : p
  · exact nF_ h (y h)
  · exact nT_ h (x h)
theorem int_eq {i j : Int} (h : V.int i = V.int j) : i = j := V.int.inj h
/-! ### data: lists and tuples of ints, lists of these -/
abbrev dI (ns : List Int) : List PyData := ns.map PyData.int
abbrev dT (ds : List (List Int)) : List PyData := ds.map fun d => PyData.tuple (dI d)
abbrev dL (ds : List (List Int)) : List PyData := ds.map fun d => PyData.list (dI d)
theorem dp_ints {K : PySem.W.Frag} {H : Hp} : ∀ ns : List Int, DpAll K H (ns.map V.int) (dI ns)
  | [] => .nil
  | x :: xs => .cons (.int x) (dp_ints xs)
theorem dp_tups {K : PySem.W.Frag} {H : Hp} : ∀ {xs : List V} {ds : List (List Int)}, TL H xs ds → DpAll K H xs (dT ds)
  | _, _, Paired.nil => .nil
  | _, _, Paired.cons ⟨t, e, h⟩ r => by
    subst e
    exact .cons (.tup (SqT.of h) (dp_ints _)) (dp_tups r)
theorem lay_ints : ∀ ns : List Int, PyData.canLayAll0 (dI ns) = true ∧ PyData.depthAll (dI ns) = 0
  | [] => ⟨by simp [PyData.canLayAll0], by simp [PyData.depthAll]⟩
  | x :: xs => by
    obtain ⟨h1, h2⟩ := lay_ints xs
    refine ⟨?_, ?_⟩
    · rw [dI, List.map_cons, PyData.canLayAll0, h1, PyData.canLay0]; rfl
    · rw [dI, List.map_cons, PyData.depthAll, h2, PyData.depth]; rfl
theorem shaped_list (ns : List Int) : SeqAt.shaped (.list (dI ns)) = true := by
  obtain ⟨h1, h2⟩ := lay_ints ns
  unfold SeqAt.shaped
  rw [PyData.canLay0, h1, PyData.depth, h2]
  rfl
theorem shaped_tup (ns : List Int) : SeqAt.shaped (.tuple (dI ns)) = true := by
  obtain ⟨h1, h2⟩ := lay_ints ns
  unfold SeqAt.shaped
  rw [PyData.canLay0, h1, PyData.depth, h2]
  rfl
theorem lay_tups : ∀ ds : List (List Int), PyData.canLayAll0 (dT ds) = true ∧ PyData.depthAll (dT ds) ≤ 1
  | [] => ⟨by simp [PyData.canLayAll0], by simp [PyData.depthAll]⟩
  | x :: xs => by
    obtain ⟨h1, h2⟩ := lay_tups xs
    obtain ⟨h3, h4⟩ := lay_ints x
    refine ⟨?_, ?_⟩
    · rw [dT, List.map_cons, PyData.canLayAll0, h1, PyData.canLay0, h3]; rfl
    · rw [dT, List.map_cons, PyData.depthAll, PyData.depth, h4]
      exact Nat.max_le.mpr ⟨Nat.le_refl _, h2⟩
theorem lay_lsts : ∀ ds : List (List Int), PyData.canLayAll0 (dL ds) = true ∧ PyData.depthAll (dL ds) ≤ 1
  | [] => ⟨by simp [PyData.canLayAll0], by simp [PyData.depthAll]⟩
  | x :: xs => by
    obtain ⟨h1, h2⟩ := lay_lsts xs
    obtain ⟨h3, h4⟩ := lay_ints x
    refine ⟨?_, ?_⟩
    · rw [dL, List.map_cons, PyData.canLayAll0, h1, PyData.canLay0, h3]; rfl
    · rw [dL, List.map_cons, PyData.depthAll, PyData.depth, h4]
      exact Nat.max_le.mpr ⟨Nat.le_refl _, h2⟩
theorem shaped_tups (ds : List (List Int)) : SeqAt.shaped (.list (dT ds)) = true := by
  obtain ⟨h1, h2⟩ := lay_tups ds
  unfold SeqAt.shaped
  rw [PyData.canLay0, h1, PyData.depth, Bool.true_and]
  exact decide_eq_true (by omega)
theorem shaped_lsts (ds : List (List Int)) : SeqAt.shaped (.list (dL ds)) = true := by
  obtain ⟨h1, h2⟩ := lay_lsts ds
  unfold SeqAt.shaped
  rw [PyData.canLay0, h1, PyData.depth, Bool.true_and]
  exact decide_eq_true (by omega)
theorem eqv_ints : ∀ ns ms : List Int, PyData.eqvAll (dI ns) (dI ms) = decide (ns = ms)
  | [], [] => by simp [dI, PyData.eqvAll]
  | [], _ :: _ => by simp [dI, PyData.eqvAll]
  | _ :: _, [] => by simp [dI, PyData.eqvAll]
  | x :: xs, y :: ys => by
    show PyData.eqvAll (PyData.int x :: dI xs) (PyData.int y :: dI ys) = _
    rw [PyData.eqvAll, eqv_ints xs ys, PyData.eqv, Bool.beq_eq_decide_eq]
    by_cases e : x = y
    · subst e; by_cases e2 : xs = ys <;> simp [e2]
    · simp [e]
theorem eqv_list (ns ms : List Int) : PyData.eqv (.list (dI ns)) (.list (dI ms)) = decide (ns = ms) := by rw [PyData.eqv, eqv_ints]
theorem eqv_tup (ns ms : List Int) : PyData.eqv (.tuple (dI ns)) (.tuple (dI ms)) = decide (ns = ms) := by rw [PyData.eqv, eqv_ints]
theorem eqv_lists : ∀ ns ms : List (List Int), PyData.eqvAll (dL ns) (dL ms) = decide (ns = ms)
  | [], [] => by simp [dL, PyData.eqvAll]
  | [], _ :: _ => by simp [dL, PyData.eqvAll]
  | _ :: _, [] => by simp [dL, PyData.eqvAll]
  | x :: xs, y :: ys => by
    show PyData.eqvAll (PyData.list (dI x) :: dL xs) (PyData.list (dI y) :: dL ys) = _
    rw [PyData.eqvAll, eqv_lists xs ys, eqv_list]
    by_cases e : x = y
    · subst e; by_cases e2 : xs = ys <;> simp [e2]
    · simp [e]
theorem dp_list {K : PySem.W.Frag} {H : Hp} {a : Addr} {ns : List Int} (h : SqL K H a (ns.map V.int)) : Dp K H (.ref a) (.list (dI ns)) := .lst h (dp_ints ns)
theorem dp_tup {K : PySem.W.Frag} {H : Hp} {a : Addr} {ns : List Int} (h : H a = some (.tup (ns.map V.int))) : Dp K H (.ref a) (.tuple (dI ns)) := .tup (SqT.of h) (dp_ints ns)
theorem dp_tl {K : PySem.W.Frag} {H : Hp} {a : Addr} {xs : List V} {ds : List (List Int)} (h : SqL K H a xs) (t : TL H xs ds) : Dp K H (.ref a) (.list (dT ds)) := .lst h (dp_tups t)
/-! ### the rules that speak of the written part, with its name -/
section
variable {X : Cx} {K : PySem.W.Frag}
theorem lenK (hK : X.K = K := by rfl) : CallR X (.builtin "len") (fun xs H Q => ∃ p ys, xs = [.ref p] ∧ (SqL K H p ys ∨ SqT K H p ys) ∧ Q (.int ys.length) H) := by subst hK; exact call_len_seq
theorem ixK (hK : X.K = K := by rfl) : IxR X (rIxL K) := by subst hK; exact ix_list
theorem ixTK (hK : X.K = K := by rfl) : IxR X (rIxT K) := by subst hK; exact ix_tup
theorem slK (hK : X.K = K := by rfl) : SlR X (rSlL K) := by subst hK; exact sl_list
theorem isiK (hK : X.K = K := by rfl) : CallR X (.builtin "isinstance") (rIsi K) := by subst hK; exact call_isi
theorem eqDK (hu : X.A.units + 64 < cLine) (hK : X.K = K := by rfl) : OpR X (compareOp .Eq) (rEqD K) := by subst hK; exact op_eqD hu
theorem neDK (hu : X.A.units + 64 < cLine) (hK : X.K = K := by rfl) : OpR X (compareOp .NotEq) (rNeD K) := by subst hK; exact op_neD hu
theorem inDK (hu : X.A.units + 65 < cLine) (hK : X.K = K := by rfl) : OpR X (compareOp .In) (rInD K) := by subst hK; exact op_inD hu
theorem notInDK (hu : X.A.units + 65 < cLine) (hK : X.K = K := by rfl) : OpR X (compareOp .NotIn) (rNotInD K) := by subst hK; exact op_notInD hu
theorem inSK (hK : X.K = K := by rfl) : OpR X (compareOp .In) (rIn K false) := by subst hK; exact op_in_seq
theorem notInSK (hK : X.K = K := by rfl) : OpR X (compareOp .NotIn) (rIn K true) := by subst hK; exact op_notIn_seq
theorem listK (hK : X.K = K := by rfl) : CallR X (.type "list") (fun xs H Q => ∃ p ys, xs = [.ref p] ∧ (SqL K H p ys ∨ SqT K H p ys) ∧ ∀ l, H l = none → Q (.ref l) (upd H l (.lst ys))) := by subst hK; exact call_list_of
theorem tupleK (hK : X.K = K := by rfl) : CallR X (.type "tuple") (fun xs H Q => ∃ p ys, xs = [.ref p] ∧ ((SqL K H p ys ∧ ∀ l, H l = none → Q (.ref l) (upd H l (.tup ys))) ∨ (SqT K H p ys ∧ Q (.ref p) H))) := by subst hK; exact call_tuple_of
theorem maxK (hc : X.calm = true) (hK : X.K = K := by rfl) : CallR X (.builtin "max") (rMax K) := by subst hK; exact cr_max hc
theorem indexK (hK : X.K = K := by rfl) : MtR X "list.index" (rIndex K) := by subst hK; exact mt_index
theorem sortedRevK (hK : X.K = K := by rfl) : CallRK X (.builtin "sorted") [Str.ofString "reverse"] (rSortedKw K true [.bl true]) := by subst hK; exact cr_sortedRev (b := true)
theorem pi_listK {tg l : Expr} {tl : TE} (hl : PE X l tl) (hK : X.K = K := by rfl) : PI X tg l (iList K tl) := by subst hK; exact pi_list hl
theorem pi_tupK {tg l : Expr} {tl : TE} (hl : PE X l tl) (hK : X.K = K := by rfl) : PI X tg l (iTup K tl) := by subst hK; exact pi_tup hl
theorem pi_enumK {e : Expr} {ta : TA} {p pos tpos : Pos} {elts : List Expr} {kk : Nat} (hg : Gl X "enumerate") (hm : X.mg "enumerate" = none) (ha : PA X [e] ta) (hs : starEach [e] X.env = [(false, eval e X.env)] := by rfl) (hK : X.K = K := by rfl) :
    PI X (.Tuple elts kk tpos) (.Call (.Name "enumerate" p) [e] [] pos) (iEnum K ta) := by subst hK; exact pi_enum hg hm ha hs
theorem pg_tupK {es : List Expr} {k : Nat} {t : TGs} {n : Nat} {pos : Pos} (hc : X.calm = true) (h : PGs X es t) (hn : (assignEach es X.env).length = n := by rfl) (hst : (assignEach es X.env).findIdx? (·.1) = none := by rfl) (hK : X.K = K := by rfl) :
    PG X (.Tuple es k pos) (gTup K n t) := by subst hK; exact pg_tup hc h hn hst
theorem pe_bmK {o e : Expr} {es : List Expr} {to : TE} {t : TA} {name : Str} {apos cpos : Pos} {T id : String} {r : V → List V → Hp → VK → Prop} (pa : PlainAttrs T) (slot : Slot T name id) (hty : typeOf (.builtin id) = pure (.type "method_descriptor")) (hm : MtR X id r) (ho : PE X o to) (ha : PA X (e :: es) t)
    (hbase : attributeBase o name X.env (eval o X.env) = eval o X.env := by rfl)
    (hfew : ((backTo cpos (starEach (e :: es) X.env)).all (fun x => !x.1) && (backToKw cpos (keywordEach [] X.env)).all (fun x => x.1.isSome)
      && decide ((e :: es).length + ([] : List Keyword).length + (if ([] : List Keyword).isEmpty then 0 else 1) < 30)) = true := by rfl)
    (hline : (apos.endLine == cpos.line) = true := by rfl) (hs : starEach (e :: es) X.env = (false, eval e X.env) :: starEach es X.env := by rfl) (hplain : (backTo cpos (starEach es X.env)).any (·.1) = false := by rfl) (hK : X.K = K := by rfl) : PE X (.Call (.Attribute o name apos) (e :: es) [] cpos) (tBM K T r to t) := by subst hK; exact pe_bm pa slot hty hm ho ha hbase hfew hline hs hplain
end
theorem hu65 {k : Nat} {A : Around} (hr : Room k A) : A.units + 65 < cLine := by
  have := hr.un
  omega
/-- the law's promise -/
def sp_law (K : PySem.W.Frag) : Sp := fun vs H Q _ => ∃ (a : Addr) (ns : List Int), vs = [.ref a] ∧ SqL K H a (ns.map V.int) ∧ ns.length ≤ 63 ∧ ∀ H', Q (.bl true) H'
/-! ### all bars -/
def allFrom : Nat → Nat → List (List Int)
  | 0, _ => [[]]
  | n + 1, m => [] :: (List.range m).flatMap fun i => (allFrom n (i + 1)).map fun t => ((i + 1 : Nat) : Int) :: t
theorem mem_allFrom : ∀ (n : Nat) (m : Nat) (b : List Int), falls (m : Int) b = true → b.length ≤ n → b ∈ allFrom n m
  | 0, m, b, _, h => by
    have : b = [] := List.length_eq_zero_iff.mp (by omega)
    subst this
    simp [allFrom]
  | n + 1, m, [], _, _ => by simp [allFrom]
  | n + 1, m, x :: xs, hf, hl => by
    rw [falls, Bool.and_eq_true, decide_eq_true_eq] at hf
    obtain ⟨⟨h1, h2⟩, h3⟩ := hf
    have e : x = (((x - 1).toNat + 1 : Nat) : Int) := by omega
    rw [allFrom]
    refine List.mem_cons_of_mem _ (List.mem_flatMap.mpr ⟨(x - 1).toNat, List.mem_range.mpr (by omega), List.mem_map.mpr ⟨xs, ?_, by rw [← e]⟩⟩)
    refine mem_allFrom n _ xs (by rw [← e]; exact h3) ?_
    rw [List.length_cons] at hl
    omega
/-- what a table of all bars shows -/
theorem all_bars {P : List Int → Bool} (h : (allFrom 5 5).all (fun b => b.isEmpty || P b) = true) {b : List Int} (hb : IsBar 5 b) : P b = true := by
  have h1 := isBarB_iff.mpr hb
  unfold isBarB at h1
  rw [Bool.and_eq_true, decide_eq_true_eq] at h1
  have h2 := List.all_eq_true.mp h b (mem_allFrom 5 5 b h1.2 h1.1.2)
  have h3 : b.isEmpty = false := by
    cases b with
    | nil => exact absurd h1.1.1 (by decide)
    | cons x xs => rfl
  rw [h3, Bool.false_or] at h2
  exact h2
/-! ### worths -/
def mexFrom (l : List Nat) : Nat → Nat → Nat
  | 0, m => m
  | k + 1, m => if m ∈ l then mexFrom l k (m + 1) else m
/-- the least number that is not in l -/
def mex (l : List Nat) : Nat := mexFrom l (l.sum + 1) 0
theorem le_sum_of_mem : ∀ {l : List Nat} {x : Nat}, x ∈ l → x ≤ l.sum
  | [], x, h => nomatch h
  | a :: l, x, h => by
    rw [List.sum_cons]
    rcases List.mem_cons.mp h with rfl | h
    · omega
    · have := le_sum_of_mem h
      omega
theorem mexFrom_spec (l : List Nat) : ∀ (k m : Nat), l.sum < m + k → (∀ j, j < m → j ∈ l) → mexFrom l k m ∉ l ∧ ∀ j, j < mexFrom l k m → j ∈ l
  | 0, m, h, hb => ⟨fun hm => by have := le_sum_of_mem (show m ∈ l from hm); omega, hb⟩
  | k + 1, m, h, hb => by
    rw [mexFrom]
    by_cases e : m ∈ l
    · rw [if_pos e]
      refine mexFrom_spec l k (m + 1) (by omega) fun j hj => ?_
      rcases Nat.lt_succ_iff_lt_or_eq.mp hj with hj | rfl
      · exact hb j hj
      · exact e
    · rw [if_neg e]
      exact ⟨e, hb⟩
theorem mex_spec (l : List Nat) : mex l ∉ l ∧ ∀ j, j < mex l → j ∈ l := mexFrom_spec l _ 0 (by omega) fun j hj => absurd hj (Nat.not_lt_zero j)
theorem mex_is {l : List Nat} {m : Nat} (h1 : m ∉ l) (h2 : ∀ j, j < m → j ∈ l) : mex l = m := by
  obtain ⟨k1, k2⟩ := mex_spec l
  rcases Nat.lt_trichotomy (mex l) m with h | h | h
  · exact absurd (h2 _ h) k1
  · exact h
  · exact absurd (k2 _ h) h1
theorem mex_congr {l l' : List Nat} (h : ∀ x, x ∈ l ↔ x ∈ l') : mex l = mex l' := mex_is (fun q => (mex_spec l').1 ((h _).mp q)) fun j hj => (h j).mpr ((mex_spec l').2 j hj)
/-- how many pieces a bar has -/
def pieces (b : List Int) : Nat := (b.map Int.toNat).sum
theorem pieces_append (a b : List Int) : pieces (a ++ b) = pieces a + pieces b := by
  unfold pieces
  rw [List.map_append, List.sum_append]
theorem pieces_cut (c : Nat) : ∀ b : List Int, pieces (b.map fun x => min x (c : Int)) ≤ pieces b
  | [] => Nat.le_refl _
  | x :: xs => by
    have := pieces_cut c xs
    unfold pieces at *
    rw [List.map_cons, List.map_cons, List.sum_cons, List.map_cons, List.sum_cons]
    omega
theorem pieces_less {b : List Int} {p : Nat × Nat} (h : p ∈ bitesL b) : pieces (behindL b p.1 p.2) < pieces b := by
  obtain ⟨x, hx, hc, _⟩ := mem_bitesL.mp h
  obtain ⟨hi, e⟩ := List.getElem?_eq_some_iff.mp hx
  have hd : b.drop p.1 = x :: b.drop (p.1 + 1) := by rw [List.drop_eq_getElem_cons hi, e]
  have hb : pieces b = pieces (b.take p.1) + pieces (b.drop p.1) := by rw [← pieces_append, List.take_append_drop]
  unfold behindL
  rw [pieces_append, hb]
  have hcut := pieces_cut p.2 (b.drop (p.1 + 1))
  have hl : pieces (if 0 < p.2 then (b.drop p.1).map fun x => min x (p.2 : Int) else []) < pieces (b.drop p.1) := by
    rw [hd]
    by_cases z : 0 < p.2
    · rw [if_pos z]
      unfold pieces at *
      rw [List.map_cons, List.map_cons, List.sum_cons, List.map_cons, List.sum_cons]
      omega
    · rw [if_neg z]
      unfold pieces
      rw [List.map_cons, List.sum_cons, List.map_nil, List.sum_nil]
      omega
  omega
theorem isBar_behind {m : Int} {b : List Int} (hb : IsBar m b) {p : Nat × Nat} (h : p ∈ bitesL b) : IsBar m (behindL b p.1 p.2) := by
  obtain ⟨x, hx, hc, hp⟩ := mem_bitesL.mp h
  obtain ⟨hi, e⟩ := List.getElem?_eq_some_iff.mp hx
  have hsub : ∀ y ∈ b.drop p.1, y ∈ b := fun y hy => List.mem_of_mem_drop hy
  have pw := hb.pw
  have ln : (behindL b p.1 p.2).length ≤ b.length ∧ 1 ≤ (behindL b p.1 p.2).length := by
    unfold behindL
    rw [List.length_append, List.length_take]
    by_cases z : 0 < p.2
    · rw [if_pos z, List.length_map, List.length_drop]
      omega
    · rw [if_neg z, List.length_nil]
      omega
  refine ⟨ln.2, Int.le_trans (Int.ofNat_le.mpr ln.1) hb.le, ?_, fun y hy => ?_⟩
  · unfold behindL
    refine List.pairwise_append.mpr ⟨pw.sublist (List.take_sublist _ _), ?_, ?_⟩
    · by_cases z : 0 < p.2
      · rw [if_pos z]
        refine List.pairwise_map.mpr ((pw.sublist (List.drop_sublist _ _)).imp fun {a c} h => ?_)
        show min a (p.2 : Int) ≥ min c (p.2 : Int)
        have h : a ≥ c := h
        omega
      · rw [if_neg z]
        exact List.Pairwise.nil
    · intro a ha c hc'
      by_cases z : 0 < p.2
      · rw [if_pos z] at hc'
        obtain ⟨y, hy, rfl⟩ := List.mem_map.mp hc'
        have := List.pairwise_append.mp (show (b.take p.1 ++ b.drop p.1).Pairwise (· ≥ ·) by rw [List.take_append_drop]; exact pw)
        have := this.2.2 a ha y hy
        show a ≥ min y (p.2 : Int)
        omega
      · rw [if_neg z] at hc'
        cases hc'
  · unfold behindL at hy
    rcases List.mem_append.mp hy with hy | hy
    · exact hb.rg y (List.mem_of_mem_take hy)
    · by_cases z : 0 < p.2
      · rw [if_pos z] at hy
        obtain ⟨u, hu, rfl⟩ := List.mem_map.mp hy
        have := hb.rg u (hsub u hu)
        omega
      · rw [if_neg z] at hy
        cases hy
theorem pieces_pos {m : Int} {b : List Int} (hb : IsBar m b) : 1 ≤ pieces b := by
  cases b with
  | nil => exact absurd hb.ne (by decide)
  | cons x xs =>
    have := hb.rg x List.mem_cons_self
    unfold pieces
    rw [List.map_cons, List.sum_cons]
    omega
theorem pieces_le : ∀ {b : List Int}, (∀ x ∈ b, x ≤ 5) → pieces b ≤ 5 * b.length
  | [], _ => Nat.zero_le _
  | x :: xs, h => by
    have h1 := pieces_le (b := xs) fun y hy => h y (List.mem_cons_of_mem _ hy)
    have h2 := h x List.mem_cons_self
    unfold pieces at *
    rw [List.map_cons, List.sum_cons, List.length_cons]
    omega
theorem pieces_25 {b : List Int} (hb : IsBar 5 b) : pieces b ≤ 25 := by
  have := pieces_le fun x hx => (hb.rg x hx).2
  have := hb.le
  omega
/-- a bar's worth, n turns deep -/
def wF : Nat → List Int → Nat
  | 0, _ => 0
  | n + 1, b => mex ((bitesL b).map fun p => wF n (behindL b p.1 p.2))
def worthL (b : List Int) : Nat := wF (pieces b) b
theorem bitesFrom_nil (r : Nat) : ∀ {b : List Int}, pieces b = 0 → bitesFrom r b = []
  | [], _ => rfl
  | x :: xs, h => by
    unfold pieces at h
    rw [List.map_cons, List.sum_cons] at h
    have h0 : x.toNat = 0 := by omega
    rw [bitesFrom, h0, rowL, List.nil_append]
    refine bitesFrom_nil (r + 1) ?_
    unfold pieces
    omega
theorem bitesL_nil {b : List Int} (h : pieces b = 0) : bitesL b = [] := bitesFrom_nil 0 h
theorem wF_any : ∀ (n : Nat) (b : List Int), pieces b ≤ n → wF n b = worthL b
  | 0, b, h => by
    have e : pieces b = 0 := by omega
    unfold worthL
    rw [e]
  | n + 1, b, h => by
    by_cases e : pieces b = 0
    · have h0 : worthL b = 0 := by
        unfold worthL
        rw [e]
        rfl
      rw [h0, wF, bitesL_nil e]
      rfl
    · obtain ⟨k, hk⟩ : ∃ k, pieces b = k + 1 := ⟨pieces b - 1, by omega⟩
      unfold worthL
      rw [hk, wF, wF]
      refine congrArg mex (List.map_congr_left fun p hp => ?_)
      have := pieces_less hp
      rw [wF_any n _ (by omega)]
      exact (wF_any k _ (by omega)).symm
  termination_by n => n
/-- POINT 6 -/
theorem worthL_eq (b : List Int) : worthL b = mex ((bitesL b).map fun p => worthL (behindL b p.1 p.2)) := by
  have h := wF_any (pieces b + 1) b (by omega)
  rw [← h, wF]
  refine congrArg mex (List.map_congr_left fun p hp => ?_)
  have := pieces_less hp
  exact wF_any _ _ (by omega)
theorem behindL_snoc (l : List Int) (x : Int) (r c : Nat) : behindL (l ++ [x]) r c = behindL l r c ++ if l.length < r then [x] else if 0 < c then [min x (c : Int)] else [] := by
  unfold behindL
  by_cases h : l.length < r
  · rw [if_pos h, List.take_of_length_le (by rw [List.length_append]; exact h), List.drop_eq_nil_of_le (by rw [List.length_append]; exact h), List.take_of_length_le (Nat.le_of_lt h), List.drop_eq_nil_of_le (Nat.le_of_lt h)]
    split <;> simp
  · have h' : r ≤ l.length := by omega
    rw [if_neg h, List.take_append_of_le_length h', List.drop_append_of_le_length h']
    split <;> simp
/-! ### lists without doubles -/
theorem length_le_of_sub {α : Type} [DecidableEq α] : ∀ {l m : List α}, l.Nodup → (∀ x ∈ l, x ∈ m) → l.length ≤ m.length
  | [], _, _, _ => Nat.zero_le _
  | x :: l, m, hn, hs => by
    obtain ⟨h1, h2⟩ := List.nodup_cons.mp hn
    have hx := hs x List.mem_cons_self
    have := length_le_of_sub (l := l) (m := m.erase x) h2 fun y hy => (List.mem_erase_of_ne (fun e => h1 (by rw [← e]; exact hy))).mpr (hs y (List.mem_cons_of_mem _ hy))
    have e := List.length_erase_of_mem hx
    have : 1 ≤ m.length := by
      cases m with
      | nil => cases hx
      | cons _ _ => simp
    rw [List.length_cons]
    omega
/-! ### the dict of the worths that are known -/
def keyOf (b : List Int) : List Key := b.map Sum.inl
theorem keyOf_kV (b : List Int) : (keyOf b).map kV = b.map V.int := by
  unfold keyOf
  rw [List.map_map]
  all_goals rfl
theorem keyOf_inj : ∀ {a b : List Int}, keyOf a = keyOf b → a = b
  | [], [], _ => rfl
  | [], _ :: _, h => by cases h
  | _ :: _, [], h => by cases h
  | x :: xs, y :: ys, h => by
    have h : (Sum.inl x : Key) :: keyOf xs = Sum.inl y :: keyOf ys := h
    injection h with h1 h2
    rw [Sum.inl.inj h1, keyOf_inj h2]
structure Known (kvs : List (List Key × V)) : Prop where
  nd : (kvs.map (·.1)).Nodup
  is : ∀ p ∈ kvs, ∃ b : List Int, p.1 = keyOf b ∧ IsBar 5 b ∧ p.2 = .int (worthL b : Nat)
theorem Known.nil : Known [] := ⟨List.nodup_nil, fun _ h => nomatch h⟩
theorem mem_all {b : List Int} (h : IsBar 5 b) : b ∈ allFrom 5 5 := by
  have h1 := isBarB_iff.mpr h
  unfold isBarB at h1
  rw [Bool.and_eq_true, decide_eq_true_eq] at h1
  exact mem_allFrom 5 5 b h1.2 h1.1.2
theorem all_len : (allFrom 5 5).length = 252 := by decide +kernel
theorem Known.len {kvs : List (List Key × V)} (h : Known kvs) : kvs.length ≤ 252 := by
  have q := length_le_of_sub (m := (allFrom 5 5).map keyOf) h.nd fun x hx => by
    obtain ⟨p, hp, rfl⟩ := List.mem_map.mp hx
    obtain ⟨b, e, hb, _⟩ := h.is p hp
    rw [e]
    exact List.mem_map_of_mem (mem_all hb)
  rw [List.length_map, List.length_map, all_len] at q
  exact q
theorem valV_mem {κ : Type} [DecidableEq κ] {kvs : List (κ × V)} {k : κ} {v : V} (h : valV kvs k = some v) : (k, v) ∈ kvs := by
  unfold valV at h
  cases e : kvs.find? fun kv => decide (kv.1 = k) with
  | none =>
    rw [e] at h
    cases h
  | some p =>
    rw [e] at h
    have h1 : p.1 = k := of_decide_eq_true (List.find?_some (p := fun kv : κ × V => decide (kv.1 = k)) e)
    have h2 : p.2 = v := Option.some.inj h
    rw [← h1, ← h2]
    exact List.mem_of_find?_eq_some e
theorem Known.get {kvs : List (List Key × V)} (h : Known kvs) {b : List Int} {v : V} (e : valV kvs (keyOf b) = some v) : v = .int (worthL b : Nat) := by
  obtain ⟨c, h1, _, h2⟩ := h.is _ (valV_mem e)
  have h1 : keyOf b = keyOf c := h1
  have h2 : v = .int (worthL c : Nat) := h2
  rw [keyOf_inj h1]
  exact h2
theorem Known.put {kvs : List (List Key × V)} (h : Known kvs) {b : List Int} (hb : IsBar 5 b) (e : valV kvs (keyOf b) = none) : Known (putK kvs (keyOf b) (.int (worthL b : Nat))) := by
  refine ⟨nd_putK _ h.nd e, fun p hp => ?_⟩
  rw [putK_new _ e] at hp
  rcases List.mem_append.mp hp with hp | hp
  · exact h.is p hp
  · have := List.mem_singleton.mp hp
    subst this
    exact ⟨b, rfl, hb, rfl⟩
theorem Known.again {kvs : List (List Key × V)} (h : Known kvs) {b : List Int} {v : V} (e : valV kvs (keyOf b) = some v) : Known (putK kvs (keyOf b) (.int (worthL b : Nat))) := by
  have hm : (kvs.any fun kv => decide (kv.1 = keyOf b)) = true := by
    rw [valV_any, e]
    rfl
  unfold putK
  rw [if_pos hm]
  have e1 : (kvs.map fun kv => if kv.1 = keyOf b then (kv.1, V.int (worthL b : Nat)) else kv) = kvs := by
    refine (List.map_congr_left fun p hp => ?_).trans (List.map_id _)
    by_cases z : p.1 = keyOf b
    · rw [if_pos z]
      obtain ⟨c, h1, _, h2⟩ := h.is p hp
      have := keyOf_inj (z.symm.trans h1)
      subst this
      rw [← h2]
      all_goals rfl
    · rw [if_neg z]
      all_goals rfl
  rw [e1]
  exact h
/-! ### the dict of the worths that are seen -/
structure Seen (kvs : List (Key × V)) (l : List Nat) : Prop where
  len : kvs.length ≤ l.length
  is : ∀ m : Nat, (valV kvs (.inl (m : Int))).isSome = decide (m ∈ l)
theorem Seen.nil : Seen [] [] := ⟨Nat.le_refl _, fun m => by rw [valV_nil]; rfl⟩
theorem putK_len {κ : Type} [DecidableEq κ] (kvs : List (κ × V)) (k : κ) (v : V) : (putK kvs k v).length ≤ kvs.length + 1 := by
  unfold putK
  split
  · rw [List.length_map]; omega
  · rw [List.length_append]; exact Nat.le_refl _
theorem Seen.put {kvs : List (Key × V)} {l : List Nat} (h : Seen kvs l) (x : Nat) (v : V) : Seen (putK kvs (.inl (x : Int)) v) (l ++ [x]) := by
  refine ⟨?_, fun m => ?_⟩
  · have := putK_len kvs (.inl (x : Int)) v
    have := h.len
    rw [List.length_append, List.length_singleton]
    omega
  · rw [valV_put]
    by_cases e : m = x
    · subst e
      rw [if_pos rfl]
      simp
    · rw [if_neg (fun z => e (by have := Sum.inl.inj z; omega)), h.is m]
      simp [e]
/-! ### all but what stands at d is kept -/
def But (d : Addr) (H H' : Hp) : Prop := ∀ b o, b ≠ d → H b = some o → H' b = some o
theorem But.same {d : Addr} {H H' : Hp} (s : Same H H') : But d H H' := fun b o _ h => s b o h
theorem But.trans {d : Addr} {H H1 H2 : Hp} (a : But d H H1) (b : But d H1 H2) : But d H H2 := fun c o n h => b c o n (a c o n h)
theorem But.at {d : Addr} {H : Hp} {o : HO} : But d H (upd H d o) := fun b u n h => by
  rw [upd_ne n]
  exact h
theorem But.put {d p : Addr} {H0 H : Hp} {o : HO} (s : But d H0 H) (h : H0 p = none) : But d H0 (upd H p o) := fun b x n e => by
  rw [upd_ne (ne_of_none e h)]
  exact s b x n e
theorem But.kt {d : Addr} {H H' : Hp} {kvs : List (List Key × V)} (s : But d H H') (h : H d = some (.dT kvs)) : KT H H' := fun t xs e =>
  s t _ (ne_of e h (by intro q; cases q)) e
theorem But.seq {K : PySem.W.Frag} {d a : Addr} {H H' : Hp} {kvs : List (List Key × V)} {xs : List V} (s : But d H H') (h : H d = some (.dT kvs)) (hs : SqL K H a xs) : SqL K H' a xs := by
  rcases hs with (hs | ⟨o, hs⟩) | hs
  · exact .inl (.inl (s _ _ (ne_of hs h (by intro q; cases q)) hs))
  · exact .inl (.inr ⟨o, s _ _ (ne_of hs h (by intro q; cases q)) hs⟩)
  · exact .inr hs
theorem TL.at' {H : Hp} : ∀ {xs : List V} {ds : List (List Int)} {i : Nat} {x : V}, TL H xs ds → xs[i]? = some x → ∃ t d, ds[i]? = some d ∧ x = .ref t ∧ H t = some (.tup (d.map V.int))
  | _, _, i, x, Paired.nil, e => by simp at e
  | _, _, 0, x, Paired.cons ⟨t, h1, h2⟩ _, e => by
    obtain rfl := Option.some.inj e
    exact ⟨t, _, rfl, h1, h2⟩
  | _, _, i + 1, x, Paired.cons _ r, e => by
    obtain ⟨t, d, h1, h2, h3⟩ := TL.at' (i := i) r (by simpa using e)
    exact ⟨t, d, by simpa using h1, h2, h3⟩
theorem TL.bite {H : Hp} {xs : List V} {ps : List (Nat × Nat)} {i : Nat} {x : V} (h : TL H xs (ps.map pr)) (e : xs[i]? = some x) :
    ∃ t p, ps[i]? = some p ∧ x = .ref t ∧ H t = some (.tup [.int (p.1 : Nat), .int (p.2 : Nat)]) := by
  obtain ⟨t, d, h1, h2, h3⟩ := TL.at' h e
  rw [List.getElem?_map] at h1
  cases e2 : ps[i]? with
  | none =>
    rw [e2] at h1
    cases h1
  | some p =>
    rw [e2] at h1
    have : pr p = d := Option.some.inj h1
    subst this
    exact ⟨t, p, rfl, h2, h3⟩
/-- the worths behind the bites -/
def wB (b : List Int) (p : Nat × Nat) : Nat := worthL (behindL b p.1 p.2)
theorem worth_mex (b : List Int) : worthL b = mex ((bitesL b).map (wB b)) := worthL_eq b
/-! ### numbers in a list -/
abbrev vN (l : List Nat) : List V := l.map fun m => V.int (m : Nat)
theorem inV_nat (m : Nat) : ∀ l : List Nat, inV (.int (m : Nat)) (vN l) = decide (m ∈ l)
  | [] => rfl
  | x :: l => by
    have ih := inV_nat m l
    unfold inV at *
    rw [vN, List.map_cons, List.any_cons, ih]
    by_cases e : m = x
    · subst e
      simp [eqV]
    · have : ((x : Int) == (m : Int)) = false := beq_eq_false_iff_ne.mpr fun z => e (by omega)
      simp [eqV, this, e]
theorem flat_nat : ∀ l : List Nat, (vN l).all flatV = true
  | [] => rfl
  | _ :: l => by
    rw [vN, List.map_cons, List.all_cons, flat_nat l]
    rfl
/-! ### adding by figures of two without carrying -/
theorem xor_odd (a b : Nat) : (a ^^^ b) % 2 = (a + b) % 2 := by
  have h : (a ^^^ b) % 2 = ((a % 2) ^^^ (b % 2)) % 2 := by
    have h1 : ((a ^^^ b) % 2 ^ 1) = (a % 2 ^ 1) ^^^ (b % 2 ^ 1) := Nat.xor_mod_two_pow
    have h2 : ((a % 2 ^ 1) ^^^ (b % 2 ^ 1)) < 2 ^ 1 := Nat.xor_lt_two_pow (Nat.mod_lt _ (by decide)) (Nat.mod_lt _ (by decide))
    rw [show (2 : Nat) = 2 ^ 1 from rfl, h1]
    exact (Nat.mod_eq_of_lt h2).symm
  rw [h]
  rcases Nat.mod_two_eq_zero_or_one a with ha | ha <;> rcases Nat.mod_two_eq_zero_or_one b with hb | hb <;> rw [ha, hb] <;> first | (show (0 : Nat) = _; omega) | (show (1 : Nat) = _; omega)
theorem xor_step (a b : Nat) : a ^^^ b = (if a % 2 = b % 2 then 0 else 1) + 2 * ((a / 2) ^^^ (b / 2)) := by
  have h1 : (a ^^^ b) / 2 = a / 2 ^^^ b / 2 := Nat.xor_div_two
  have h2 := xor_odd a b
  rw [← h1]
  split <;> omega
theorem xor_shift (a b j : Nat) : (a ^^^ b) / 2 ^ j = (a / 2 ^ j) ^^^ (b / 2 ^ j) := by
  rw [← Nat.shiftRight_eq_div_pow, ← Nat.shiftRight_eq_div_pow, ← Nat.shiftRight_eq_div_pow, Nat.shiftRight_xor_distrib]
/-- how many of ws have the figure f -/
def cntBit (ws : List Nat) (f : Nat) : Nat := (ws.filter fun x => decide (x / f % 2 = 1)).length
def xorL (ws : List Nat) : Nat := ws.foldr (· ^^^ ·) 0
theorem xorL_bit (j : Nat) : ∀ ws : List Nat, xorL ws / 2 ^ j % 2 = cntBit ws (2 ^ j) % 2
  | [] => by
    show 0 / 2 ^ j % 2 = 0 % 2
    rw [Nat.zero_div]
  | x :: ws => by
    have ih := xorL_bit j ws
    show (x ^^^ xorL ws) / 2 ^ j % 2 = _
    rw [xor_shift, xor_odd]
    unfold cntBit at *
    rw [List.filter_cons]
    by_cases h : x / 2 ^ j % 2 = 1
    · rw [if_pos (decide_eq_true h), List.length_cons]
      omega
    · rw [if_neg (by rw [decide_eq_false h]; exact Bool.false_ne_true)]
      omega
theorem xorL_lt : ∀ {ws : List Nat}, (∀ x ∈ ws, x < 128) → xorL ws < 128
  | [], _ => by decide
  | x :: ws, h => by
    have h1 := h x List.mem_cons_self
    have h2 := xorL_lt fun y hy => h y (List.mem_cons_of_mem _ hy)
    exact Nat.xor_lt_two_pow (n := 7) h1 h2
def figs : List Nat := [1, 2, 4, 8, 16, 32, 64]
def addF (ws fs : List Nat) : Nat := (fs.map fun f => f * (cntBit ws f % 2)).sum
theorem addF_more {ws fs : List Nat} {i f : Nat} (h : fs[i]? = some f) : addF ws (fs.take (i + 1)) = addF ws (fs.take i) + f * (cntBit ws f % 2) := by
  unfold addF
  rw [take_more h, List.map_append, List.sum_append]
  simp
theorem addF_all {ws : List Nat} (h : ∀ x ∈ ws, x < 128) : addF ws figs = xorL ws := by
  have h0 := xorL_bit 0 ws
  have h1 := xorL_bit 1 ws
  have h2 := xorL_bit 2 ws
  have h3 := xorL_bit 3 ws
  have h4 := xorL_bit 4 ws
  have h5 := xorL_bit 5 ws
  have h6 := xorL_bit 6 ws
  have hl := xorL_lt h
  have e : addF ws figs = 1 * (cntBit ws (2 ^ 0) % 2) + (2 * (cntBit ws (2 ^ 1) % 2) + (4 * (cntBit ws (2 ^ 2) % 2) + (8 * (cntBit ws (2 ^ 3) % 2) + (16 * (cntBit ws (2 ^ 4) % 2) + (32 * (cntBit ws (2 ^ 5) % 2) + (64 * (cntBit ws (2 ^ 6) % 2) + 0)))))) := rfl
  rw [e, ← h0, ← h1, ← h2, ← h3, ← h4, ← h5, ← h6]
  generalize xorL ws = n at hl
  omega
/-! ### tables: lists of lists of ints -/
abbrev LL (H : Hp) (xs : List V) (ds : List (List Int)) : Prop := Paired (fun (x : V) (d : List Int) => ∃ t, x = .ref t ∧ H t = some (.lst (d.map V.int))) xs ds
theorem LL.keep {H H' : Hp} (k : ∀ t xs, H t = some (.lst xs) → H' t = some (.lst xs)) {xs : List V} {ds : List (List Int)} (h : LL H xs ds) : LL H' xs ds :=
  Paired.mapP h fun _ _ ⟨t, e, z⟩ => ⟨t, e, k _ _ z⟩
theorem LL.keepM {H H' : Hp} : ∀ {xs : List V} {ds : List (List Int)}, LL H xs ds → (∀ t l, V.ref t ∈ xs → H t = some (.lst l) → H' t = some (.lst l)) → LL H' xs ds
  | _, _, Paired.nil, _ => Paired.nil
  | _, _, Paired.cons ⟨t, e, h⟩ r, k => Paired.cons ⟨t, e, k t _ (by rw [e]; exact List.mem_cons_self) h⟩ (LL.keepM r fun u l hu => k u l (List.mem_cons_of_mem _ hu))
theorem LL.same {H H' : Hp} (s : Same H H') {xs : List V} {ds : List (List Int)} (h : LL H xs ds) : LL H' xs ds := LL.keep (fun t xs e => s _ _ e) h
theorem LL.but {H H' : Hp} {d : Addr} {kvs : List (List Key × V)} (s : But d H H') (hd : H d = some (.dT kvs)) {xs : List V} {ds : List (List Int)} (h : LL H xs ds) : LL H' xs ds :=
  LL.keep (fun t xs e => s _ _ (ne_of e hd (by intro z; cases z)) e) h
theorem LL.length {H : Hp} {xs : List V} {ds : List (List Int)} (h : LL H xs ds) : xs.length = ds.length := Paired.length h
theorem LL.snoc {H : Hp} : ∀ {xs : List V} {ds : List (List Int)} {t : Addr} {d : List Int}, LL H xs ds → H t = some (.lst (d.map V.int)) → LL H (xs ++ [.ref t]) (ds ++ [d])
  | _, _, t, d, Paired.nil, e => Paired.cons ⟨t, rfl, e⟩ Paired.nil
  | _, _, t, d, Paired.cons r h, e => Paired.cons r (LL.snoc h e)
theorem LL.at {H : Hp} : ∀ {xs : List V} {ds : List (List Int)} {i : Nat} {x : V}, LL H xs ds → xs[i]? = some x → ∃ t d, ds[i]? = some d ∧ x = .ref t ∧ H t = some (.lst (d.map V.int))
  | _, _, i, x, Paired.nil, e => by simp at e
  | _, _, 0, x, Paired.cons ⟨t, h1, h2⟩ _, e => by
    obtain rfl := Option.some.inj e
    exact ⟨t, _, rfl, h1, h2⟩
  | _, _, i + 1, x, Paired.cons _ r, e => by
    obtain ⟨t, d, h1, h2, h3⟩ := LL.at (i := i) r (by simpa using e)
    exact ⟨t, d, by simpa using h1, h2, h3⟩
theorem LL.get {H : Hp} : ∀ {xs : List V} {ds : List (List Int)} {i : Nat} {d : List Int}, LL H xs ds → ds[i]? = some d → ∃ t, xs[i]? = some (.ref t) ∧ H t = some (.lst (d.map V.int))
  | _, _, i, d, Paired.nil, e => by simp at e
  | _, _, 0, d, Paired.cons ⟨t, h1, h2⟩ _, e => by
    obtain rfl := Option.some.inj e
    exact ⟨t, by rw [h1]; rfl, h2⟩
  | _, _, i + 1, d, Paired.cons _ r, e => by
    obtain ⟨t, h1, h2⟩ := LL.get (i := i) r (by simpa using e)
    exact ⟨t, by simpa using h1, h2⟩
theorem dp_lls {K : PySem.W.Frag} {H : Hp} : ∀ {xs : List V} {ds : List (List Int)}, LL H xs ds → DpAll K H xs (dL ds)
  | _, _, Paired.nil => .nil
  | _, _, Paired.cons ⟨t, e, h⟩ r => by
    subst e
    exact .cons (.lst (SqL.of h) (dp_ints _)) (dp_lls r)
theorem dp_table {K : PySem.W.Frag} {H : Hp} {a : Addr} {xs : List V} {ds : List (List Int)} (h : SqL K H a xs) (t : LL H xs ds) : Dp K H (.ref a) (.list (dL ds)) := .lst h (dp_lls t)
theorem eqv_table (ns ms : List (List Int)) : PyData.eqv (.list (dL ns)) (.list (dL ms)) = decide (ns = ms) := by rw [PyData.eqv, eqv_lists]
/-- a table: at most three bars -/
structure IsTable (ds : List (List Int)) : Prop where
  le : ds.length ≤ 3
  is : ∀ d ∈ ds, IsBar 5 d
/-- all of these lists are new -/
def NewL (H : Hp) (xs : List V) : Prop := ∀ x ∈ xs, ∀ t, x = V.ref t → H t = none
/-- [list(bar) for bar in table], the table at T, the block's own name in slot j, the new list at D -/
theorem copy_loop {K : PySem.W.Frag} {σ : L2.St} {H : Hp} {Qd : Hp → Prop} {j : Nat} {T D : Addr} {xs : List V} {ds : List (List Int)} (hj : j < σ.length) (hT : SqL K H T xs) (ll : LL H xs ds) (hl : xs.length ≤ 1000) (nD : H D = none)
    (q : ∀ H' ys, Same H H' → H' D = some (.lst ys) → LL H' ys ds → NewL H ys → V.ref D ∉ ys → Qd H') :
    ∃ W : Nat → Nat → Hp → Prop, (∃ m, W 0 m (upd H D (.lst []))) ∧ ∀ i m H, W i m H →
      ((Itl K T).stop i H ∧ Qd H) ∨ ((Itl K T).go i H ∧ ∃ Nx : Hp → Prop, (∀ H', Nx H' → ∃ m', m' < m ∧ W (i + 1) m' H') ∧ ∀ x H', (Itl K T).yld i H x H' → (gName j) x (wipe σ [j]) H' fun σ2 H2 => wipe σ2 [j] = wipe σ [j] ∧ tYes σ2 H2 fun b H3 =>
        if b = true then (tCB (fun xs H Q => ∃ p ys, xs = [V.ref p] ∧ (SqL K H p ys ∨ SqT K H p ys) ∧ ∀ l, H l = none → Q (V.ref l) (upd H l (.lst ys))) (tCons (tVar j) tNil)) σ2 H3 fun y H4 => ∃ acc, H4 D = some (.lst acc) ∧ acc.length < sizeLine ∧ Nx (upd H4 D (.lst (acc ++ [y]))) else Nx H3) := by
  refine lc_list (K := K) (a := T) (xs := xs) (fun n H' => ∃ ys : List V, Same H H' ∧ H' D = some (.lst ys) ∧ LL H' ys (ds.take n) ∧ NewL H ys ∧ ys.length = n ∧ V.ref D ∉ ys) ⟨[], sNew nD, upd_same, Paired.nil, fun x hx => (nomatch hx), rfl, by simp⟩ (fun n H' _ ⟨_, s, _⟩ => s.seq hT) ?_ ?_
  · rintro n x H1 hn ⟨ys, s1, hD, ly, ny, el, nm⟩
    obtain ⟨t, d, hd, rfl, ht⟩ := ll.at hn
    refine ⟨?_, yesT ?_⟩
    · show wipe ((wipe σ [j]).set j _) [j] = wipe σ [j]
      show ((σ.set j none).set j _).set j none = σ.set j none
      rw [List.set_set, List.set_set]
    have hw : ((wipe σ [j]).set j (some (V.ref t)))[j]? = some (some (V.ref t)) := by
      rw [List.getElem?_set_self (by show j < (σ.set j none).length; rw [List.length_set]; exact hj)]
    refine ⟨_, hw, t, _, rfl, .inl (SqL.of (s1 _ _ ht)), fun l nl => ?_⟩
    have Dl : D ≠ l := ne_of_none hD nl
    have hn' : n < xs.length := (List.getElem?_eq_some_iff.mp hn).1
    refine ⟨ys, by rw [upd_ne Dl]; exact hD, small' (by omega), ys ++ [.ref l], sPut (sThen s1 nl) nD, upd_same, ?_, ?_, by rw [List.length_append, el]; rfl, fun z => ?_⟩
    · rw [take_more hd]
      refine LL.snoc (LL.keepM ly fun c cs hm e => ?_) (by rw [upd_ne Dl.symm, upd_same])
      have h1 : c ≠ D := fun z => nm (by rw [← z]; exact hm)
      rw [upd_ne h1, upd_ne (ne_of_none e nl)]
      exact e
    · intro y hy u e
      rcases List.mem_append.mp hy with h | h
      · exact ny y h u e
      · have := List.mem_singleton.mp h
        rw [this] at e
        have : l = u := V.ref.inj e
        rw [← this]
        exact s1.free nl
    · rcases List.mem_append.mp z with h | h
      · exact nm h
      · exact Dl (V.ref.inj (List.mem_singleton.mp h))
  · rintro H1 ⟨ys, s1, hD, ly, ny, el, nm⟩
    rw [ll.length, List.take_length] at ly
    exact q H1 ys s1 hD ly ny nm
/-- the worths of a table's bars -/
def worthsL (ds : List (List Int)) : List Nat := ds.map worthL
theorem worth_le {b : List Int} (h : IsBar 5 b) : worthL b ≤ 25 := by
  have hw := mex_spec ((bitesL b).map (wB b))
  rw [← worth_mex] at hw
  have h1 := length_le_of_sub (l := List.range (worthL b)) (m := (bitesL b).map (wB b)) List.nodup_range fun x hx => hw.2 x (List.mem_range.mp hx)
  have h2 := bitesL_len h
  rw [List.length_range, List.length_map] at h1
  omega
theorem worths_lt {ds : List (List Int)} (h : ∀ d ∈ ds, IsBar 5 d) : ∀ x ∈ worthsL ds, x < 128 := fun x hx => by
  obtain ⟨d, hd, rfl⟩ := List.mem_map.mp hx
  have := worth_le (h d hd)
  omega
theorem xorL_snoc (x : Nat) : ∀ l : List Nat, xorL (l ++ [x]) = xorL l ^^^ x
  | [] => by
    show x ^^^ 0 = 0 ^^^ x
    rw [Nat.xor_comm]
  | y :: l => by
    show y ^^^ xorL (l ++ [x]) = (y ^^^ xorL l) ^^^ x
    rw [xorL_snoc x l, Nat.xor_assoc]
/-! ### notes -/
open TL in
/-- a bar's word -/
def codesW (d : List Int) : List Nat := d.map fun x => 48 + x.toNat
def wordS (d : List Int) : Str := ⟨(codesW d).toArray⟩
def blank : Str := Str.ofString " "
def noteS (ds : List (List Int)) : Str := Txt.join blank (ds.map wordS)
theorem tl_wordS (d : List Int) : TL.tl (wordS d) = codesW d := rfl
theorem tl_blank : TL.tl blank = [32] := by decide +kernel
theorem str_digit {x : Int} (h1 : 1 ≤ x) (h5 : x ≤ 5) : Str.ofString (toString x) = ⟨#[48 + x.toNat]⟩ := by
  rcases (by omega : x = 1 ∨ x = 2 ∨ x = 3 ∨ x = 4 ∨ x = 5) with rfl | rfl | rfl | rfl | rfl <;> decide +kernel
theorem fig_at {x : Int} (h1 : 1 ≤ x) (h5 : x ≤ 5) : Builtin.Str.occurrences (Str.ofString "12345") ⟨#[48 + x.toNat]⟩ 0 (Str.ofString "12345").length 1 = (x.toNat - 1) :: [] ∧ (48 + x.toNat) ∈ (Str.ofString "12345").cps.toList ∧ atI (Str.ofString "012345").cps.toList x = some (48 + x.toNat) := by
  rcases (by omega : x = 1 ∨ x = 2 ∨ x = 3 ∨ x = 4 ∨ x = 5) with rfl | rfl | rfl | rfl | rfl <;> exact ⟨by decide +kernel, by decide +kernel, by decide +kernel⟩
theorem joinL_nil : ∀ l : List (List Nat), TL.joinL [] l = l.flatten
  | [] => rfl
  | [x] => by
    show x = x ++ []
    rw [List.append_nil]
  | x :: y :: r => by
    show x ++ ([] ++ TL.joinL [] (y :: r)) = x ++ (y :: r).flatten
    rw [List.nil_append, joinL_nil (y :: r)]
theorem join_word (d : List Int) : Txt.join (Str.ofString "") (d.map fun x => (⟨#[48 + x.toNat]⟩ : Str)) = wordS d := by
  refine TL.ext_tl ?_
  rw [TL.join_eq, TL.tl_join, show TL.tl (Str.ofString "") = [] from by decide +kernel, joinL_nil, tl_wordS, List.map_map]
  unfold codesW
  induction d with
  | nil => rfl
  | cons x d ih =>
    rw [List.map_cons, List.map_cons, List.flatten_cons, ih]
    rfl
theorem joinL_snoc (s : List Nat) (x : List Nat) : ∀ {l : List (List Nat)}, l ≠ [] → TL.joinL s (l ++ [x]) = TL.joinL s l ++ (s ++ x)
  | [], h => absurd rfl h
  | [y], _ => rfl
  | y :: z :: r, _ => by
    have ih := joinL_snoc s x (l := z :: r) (by simp)
    show y ++ (s ++ TL.joinL s ((z :: r) ++ [x])) = (y ++ (s ++ TL.joinL s (z :: r))) ++ (s ++ x)
    rw [ih]
    simp only [List.append_assoc]
theorem tl_noteS (ds : List (List Int)) : TL.tl (noteS ds) = TL.joinL [32] (ds.map codesW) := by
  unfold noteS
  rw [TL.join_eq, TL.tl_join, tl_blank, List.map_map]
  rfl
theorem note_snoc (l : List (List Int)) (d : List Int) : noteS (l ++ [d]) = if l = [] then wordS d else noteS l ++ blank ++ wordS d := by
  refine TL.ext_tl ?_
  by_cases h : l = []
  · subst h
    rw [if_pos rfl, tl_noteS, tl_wordS]
    rfl
  · rw [if_neg h, tl_noteS, TL.tl_append, TL.tl_append, tl_noteS, tl_blank, tl_wordS, List.map_append, List.map_singleton, joinL_snoc _ _ (by simpa using h), List.append_assoc]
theorem noteS_nil : noteS [] = Str.ofString "" := by decide +kernel
theorem codes_no {d : List Int} (h : ∀ x ∈ d, 1 ≤ x ∧ x ≤ 5) : (32 : Nat) ∉ codesW d := fun hm => by
  obtain ⟨x, hx, e⟩ := List.mem_map.mp hm
  have := h x hx
  omega
theorem note_split {ds : List (List Int)} (hne : ds ≠ []) (h : ∀ d ∈ ds, IsBar 5 d) : Txt.split (noteS ds) blank = ds.map wordS := by
  unfold noteS
  refine TL.split_join (s := 32) (S := []) tl_blank (by decide +kernel) (by simpa using hne) fun p hp => ?_
  obtain ⟨d, hd, rfl⟩ := List.mem_map.mp hp
  rw [tl_wordS]
  exact codes_no (h d hd).rg
theorem wordS_len (d : List Int) : (wordS d).length = d.length := by
  rw [TL.len_tl, tl_wordS]
  exact List.length_map _
theorem joinL_len (s : List Nat) (m : Nat) : ∀ {l : List (List Nat)}, (∀ x ∈ l, x.length ≤ m) → (TL.joinL s l).length ≤ (m + s.length) * l.length
  | [], _ => Nat.zero_le _
  | [x], h => by
    have := h x List.mem_cons_self
    show x.length ≤ (m + s.length) * 1
    omega
  | x :: y :: r, h => by
    have h1 := h x List.mem_cons_self
    have h2 := joinL_len s m (l := y :: r) fun z hz => h z (List.mem_cons_of_mem _ hz)
    show (x ++ (s ++ TL.joinL s (y :: r))).length ≤ _
    rw [List.length_append, List.length_append, List.length_cons, Nat.mul_succ]
    omega
theorem note_len {ds : List (List Int)} (h3 : ds.length ≤ 3) (h : ∀ d ∈ ds, IsBar 5 d) : (noteS ds).length ≤ 18 := by
  rw [TL.len_tl, tl_noteS]
  have := joinL_len [32] 5 (l := ds.map codesW) fun x hx => by
    obtain ⟨d, hd, rfl⟩ := List.mem_map.mp hx
    have := (h d hd).le
    unfold codesW
    rw [List.length_map]
    omega
  rw [List.length_map] at this
  show _ ≤ _
  have e : ([32] : List Nat).length = 1 := rfl
  rw [e] at this
  omega
theorem note_ne {ds : List (List Int)} (hne : ds ≠ []) (h : ∀ d ∈ ds, IsBar 5 d) : noteS ds ≠ Str.ofString "" := fun e => by
  have e1 := congrArg TL.tl e
  rw [tl_noteS, show TL.tl (Str.ofString "") = [] from by decide +kernel] at e1
  cases ds with
  | nil => exact hne rfl
  | cons d r =>
    have hd := (h d List.mem_cons_self).ne
    cases d with
    | nil => exact absurd hd (by decide)
    | cons x d =>
      cases r with
      | nil => cases e1
      | cons _ _ => cases e1
/-! ### over a text's signs -/
theorem for_str {x : Str} {g : TG} {tb : TS} {D : Ends} {σ : L2.St} {H : Hp} (Pv : Nat → L2.St → Hp → Prop) (h0 : Pv 0 σ H)
    (hs : ∀ i c σ H, (TL.tl x)[i]? = some c → Pv i σ H → g (.str ⟨#[c]⟩) σ H fun σ2 H2 => tb { D with nx := Pv (i + 1), ct := Pv (i + 1), bk := D.nx } σ2 H2) (hd : ∀ σ H, Pv (TL.tl x).length σ H → D.nx σ H) :
    ∃ W : Nat → Nat → L2.St → Hp → Prop, (∃ m, W 0 m σ H) ∧ ∀ i m σ H, W i m σ H →
      ((Its x).stop i H ∧ D.nx σ H) ∨ ((Its x).go i H ∧ ∃ N : L2.St → Hp → Prop, (∀ σ' H', N σ' H' → ∃ m', m' < m ∧ W (i + 1) m' σ' H') ∧ ∀ v H', (Its x).yld i H v H' → g v σ H' fun σ2 H2 => tb { D with nx := N, ct := N, bk := D.nx } σ2 H2) := by
  have hsz : x.cps.size = (TL.tl x).length := by simp [TL.tl]
  refine ⟨fun i m σ H => m = (TL.tl x).length - i ∧ i ≤ (TL.tl x).length ∧ Pv i σ H, ⟨(TL.tl x).length, by simp, Nat.zero_le _, h0⟩, ?_⟩
  rintro i m σ H ⟨rfl, hi, p⟩
  by_cases hlt : i < (TL.tl x).length
  · refine .inr ⟨by show i < x.cps.size; omega, Pv (i + 1), fun σ' H' p' => ⟨(TL.tl x).length - (i + 1), by omega, rfl, hlt, p'⟩, fun v H' y => ?_⟩
    obtain ⟨e, c, hc, rfl⟩ := y
    subst e
    exact hs i c σ _ (by rw [← hc]; simp [TL.tl]) p
  · have e : i = (TL.tl x).length := by omega
    subst e
    exact .inl ⟨by show x.cps.size ≤ _; omega, hd σ H p⟩
theorem lc_str {x : Str} {g : TG} {tt : TT} {te : TE} {vs : List Nat} {σ : L2.St} {H1 : Hp} {D : Addr} {Qd : Hp → Prop} (Pv : Nat → Hp → Prop) (h0 : Pv 0 (upd H1 D (.lst [])))
    (hs : ∀ i c H, (TL.tl x)[i]? = some c → Pv i H → g (.str ⟨#[c]⟩) (wipe σ vs) H fun σ2 H2 => wipe σ2 vs = wipe σ vs ∧ tt σ2 H2 fun b H3 =>
      if b = true then te σ2 H3 fun y H4 => ∃ acc, H4 D = some (.lst acc) ∧ acc.length < sizeLine ∧ Pv (i + 1) (upd H4 D (.lst (acc ++ [y]))) else Pv (i + 1) H3) (hd : ∀ H, Pv (TL.tl x).length H → Qd H) :
    ∃ W : Nat → Nat → Hp → Prop, (∃ m, W 0 m (upd H1 D (.lst []))) ∧ ∀ i m H, W i m H →
      ((Its x).stop i H ∧ Qd H) ∨ ((Its x).go i H ∧ ∃ Nx : Hp → Prop, (∀ H', Nx H' → ∃ m', m' < m ∧ W (i + 1) m' H') ∧ ∀ v H', (Its x).yld i H v H' → g v (wipe σ vs) H' fun σ2 H2 => wipe σ2 vs = wipe σ vs ∧ tt σ2 H2 fun b H3 =>
        if b = true then te σ2 H3 fun y H4 => ∃ acc, H4 D = some (.lst acc) ∧ acc.length < sizeLine ∧ Nx (upd H4 D (.lst (acc ++ [y]))) else Nx H3) := by
  have hsz : x.cps.size = (TL.tl x).length := by simp [TL.tl]
  refine ⟨fun i m H => m = (TL.tl x).length - i ∧ i ≤ (TL.tl x).length ∧ Pv i H, ⟨(TL.tl x).length, by simp, Nat.zero_le _, h0⟩, ?_⟩
  rintro i m H ⟨rfl, hi, p⟩
  by_cases hlt : i < (TL.tl x).length
  · refine .inr ⟨by show i < x.cps.size; omega, Pv (i + 1), fun H' p' => ⟨(TL.tl x).length - (i + 1), by omega, rfl, hlt, p'⟩, fun v H' y => ?_⟩
    obtain ⟨e, c, hc, rfl⟩ := y
    subst e
    exact hs i c _ (by rw [← hc]; simp [TL.tl]) p
  · have e : i = (TL.tl x).length := by omega
    subst e
    exact .inl ⟨by show x.cps.size ≤ _; omega, hd H p⟩
theorem pe_joinK {X : Cx} {K : PySem.W.Frag} {o e : Expr} {to te : TE} {apos pos : Pos} (ho : PE X o to) (he : PE X e te) (hs : starEach [e] X.env = [(false, eval e X.env)] := by rfl) (hbase : attributeBase o "join" X.env (eval o X.env) = eval o X.env := by rfl) (hline : (apos.endLine == pos.line) = true := by rfl) (hK : X.K = K := by rfl) :
    PE X (.Call (.Attribute o "join" apos) [e] [] pos) (tM1 (fun x xs H Q => ∃ a p, ∃ ys : List Str, x = .str a ∧ xs = [.ref p] ∧ (SqL K H p (ys.map V.str) ∨ SqT K H p (ys.map V.str)) ∧
      (ys.map (·.length)).sum + ys.length * a.length ≤ 16777216 ∧ Q (.str (Txt.join a ys)) H) to te) := by subst hK; exact pe_join ho he hs hbase hline
/-! ### errors of own classes -/
/-- nothing is let out around a body -/
theorem nobodyN {X : Cx} : L2N.Takes X (fun _ _ _ _ => False) := fun u s' x => by
  obtain ⟨_, _, _, _, _, _, _, _, _, _, _, _, _, _, _, _, no⟩ := x
  exact False.elim no
section
variable {P : Program} {w : World} {K : PySem.W.Frag} {mg : Str → Option Value} {base : Heap}
/-- a def that lets errors (with no context) out -/
theorem okN {x qual : Str} {st : Stmt} {f : Addr} {fd : FuncData} {N ps : List Str} {k : Nat} {sp : Sp} (F : Fun K x qual st f fd) (S : FnScope N ps (defScope st)) (len : ∀ vs H Q E, sp vs H Q E → vs.length = ps.length)
    (body : ∀ (cdv : Value) (A : Around) (outer : List Env) (s : Shared) (H : Hp) (vs : List V) (Q : VK) (E : XK), Room k (A.deeper (envOfC qual (defScope st) s.heap.objs.size f cdv)) → sp vs H Q E →
      ∃ t, PSs (cxOf (L2N.CX P w) P w K mg base N qual (defScope st) f cdv A outer s H E) (defBody st) t ∧ t { nx := fun _ H2 => Q .non H2, rt := Q } (start N vs) H) : FnOk P w K mg base (L2N.CX P w) (k + 1) f fd ps sp := by
  obtain ⟨_, _, _, _, _, _, cdv, _, _, rfl, lk, cd⟩ := F.ex
  exact fn_of lk cd S len fun A outer s H vs Q E r h => body cdv A outer s H vs Q E r h
end
/-- a call of a def that may let an error out, its slots known -/
theorem pe_cS {X : Cx} {W : WX} {k j : Nat} {x : Str} {ps : List Str} {sp : Sp} {e : Expr} {es : List Expr} {t : TA} {p pos : Pos} (C : Cal X.prog X.w X.K X.mg X.base (L2N.CX X.prog X.w) k x ps sp) (hr : Room j X.A) (hj : k ≤ j) (tk : L2N.Takes X W) (ha : PA X (e :: es) t)
    (hg : Gl X x := by rfl) (hdb : (x == ("__debug__" : Str)) = false := by decide) (he : starEach (e :: es) X.env = (false, eval e X.env) :: starEach es X.env := by rfl) (hpl : (backTo pos (starEach es X.env)).any (·.1) = false := by rfl) :
    PE X (.Call (.Name x p) (e :: es) [] pos) (tCallS sp (WE W) t) := by
  obtain ⟨f, fd, F, gm, kp, bd⟩ := C.ex
  exact pe_callS F (hr.mono hj) hg gm kp bd (fun σ => L2N.passAt tk σ) ha hdb he hpl
/-- what the written part says of an error class D below cB -/
structure Own (K : PySem.W.Frag) (mg : Str → Option Value) (x : Str) (cB D : Addr) : Prop where
  g : mg x = some (.ref D)
  x : PySem.W.excIn K D [.type "ValueError", .type "Exception", .type "BaseException", .type "object"] "ValueError.__new__" = true
  kp : PySem.W.keepIn K (.ref D) = true
  b : PySem.W.subIn K (.ref D) (.type "BaseException") = some true
  ty : PySem.W.typeIn K (.ref D) = some (.type "type")
  m : PySem.W.exmOne K (.ref D) (.ref cB) = some true
/-- raise D('..') -/
theorem ps_own {X : Cx} {W : WX} {K : PySem.W.Frag} {mg : Str → Option Value} {x m : Str} {cB D : Addr} {j : Nat} {p p2 pos pos2 : Pos} (hc : X.calm = true) (T : Own K mg x cB D) (tk : L2N.Takes X W) (hK : X.K = K := by rfl) (hm : X.mg = mg := by rfl) (hg : Gl X x := by rfl)
    (hdb : (x == ("__debug__" : Str)) = false := by decide) : PS X (.Raise (some (.Call (.Name x p) [.Constant (.str m) j p2] [] pos)) none pos2) (fun _ σ H => W (.ref D) none σ H) := by
  subst hK hm
  exact L2N.ps_raise hc tk (L2N.pmk_own PySem.F.excBase_ValueError T.x T.g T.kp (raises_own T.b T.ty) hg hdb)
/-! ### isinstance of the error that an except clause holds -/
theorem call_isP {X : Cx} {K : PySem.W.Frag} {p : Addr × Obj} {D : Addr} (C : ExcC K D) (hp : p ∈ X.pn) (hc : p.2.cls = .ref D) (hd : p.2.dict = none) (hf : ∃ vs, p.2.data = .fields vs) (hK : X.K = K := by rfl) : CallR X (.builtin "isinstance") (rIsE K D p.1) := by
  subst hK
  intro pins s σ H xs us Q I r h
  obtain ⟨a, oe⟩ := p
  obtain ⟨c, cv, b, rfl, same, e, q⟩ := h
  obtain _ | ⟨rx, _ | ⟨rt, _ | _⟩⟩ := r
  cases rx
  have ec := same _ rt
  subst ec
  have at0 := (I.pin (a, oe) (List.mem_append_left _ hp)).1
  have J : PySem.W.InstAt s.heap a oe D none := by
    obtain ⟨vs, ed⟩ := hf
    obtain ⟨o1, o2, o3, o4⟩ := oe
    dsimp only at hc hd ed at0
    subst hc hd ed
    exact ⟨at0, rfl, rfl, trivial⟩
  refine PySem.W.kia_one (PySem.W.handS_kitx_exc C.hg C.hk C.hs C.hd C.ha C.hn C.ht C.hm) I.kIn J e (fun z => nomatch z) fun tk => ?_
  exact ⟨.bl b, H, I.kept (t' := tk) fun _ _ z => z, rfl, q⟩
/-! ### list.count of bools -/
theorem countB {l : List Bool} : ∀ {its : List Value}, Vals (l.map V.bl) its → its = l.map Value.bool := by
  induction l with
  | nil => intro its r; cases r; rfl
  | cons b l ih =>
    intro its r
    cases r with
    | cons rb rr =>
      cases rb
      rw [ih rr]
      rfl
theorem mt_bcount {X : Cx} {K : PySem.W.Frag} (hK : X.K = K := by rfl) : MtR X "list.count" (fun x xs H Q => ∃ (p : Addr) (bs : List Bool) (k : Bool), x = .ref p ∧ xs = [.bl k] ∧ SqL K H p (bs.map V.bl) ∧ Q (.int (bs.countP (· == k) : Nat)) H) := by
  subst hK
  intro pins s σ H x xs v us Q I rx rxs h
  obtain ⟨p, bs, k, rfl, rfl, hs, q⟩ := h
  cases rx
  obtain ⟨u, rfl, ru⟩ := rxs.one
  cases ru
  obtain ⟨its, rv, ⟨⟨c1, c2, c3, c4⟩, n, ho, hc, hdn, hd⟩, _⟩ := I.list hs
  simp only at hc hd
  subst hc hd
  have ei := countB rv
  subst ei
  refine call_meets PySem.F.slot_list_count ⟨_, ho, rfl⟩ PySem.F.entry_list_count (PySem.F.args_list_count_2 _ _)
    (SeqAt.list_countAt p (bs.map Value.bool).toArray n c2 c4 (.bool k) (fun y => match y with | .bool b => b == k | _ => false)) ⟨ho, fun y hy => ?_, ?_⟩
  · obtain ⟨b, _, rfl⟩ := List.mem_map.mp (show y ∈ bs.map Value.bool by simpa using hy)
    exact PySem.SeqAt.EqAt.bool_bool b k
  · refine ⟨.int (bs.countP (· == k) : Nat), H, I.tok _, ⟨s.toks, ?_⟩, q⟩
    show Value.int (((bs.map Value.bool).countP _ : Nat) : Int) s.toks = _
    rw [List.countP_map]
    rfl
/-! ### a def that is called with the error that an except clause holds -/
/-- its promise may speak of the error's object -/
structure FnE (P : Program) (w : World) (K : PySem.W.Frag) (mg : Str → Option Value) (base : Heap) (k : Nat) (f : Addr) (fd : FuncData) (ps : List Str) (sp : Addr × Obj → Sp) : Prop where
  size : ∀ p vs H Q E, sp p vs H Q E → vs.length = ps.length
  go : ∀ (p : Addr × Obj) (A : Around) (outer : List Env) (s : Shared) (H : Hp) (args : Args) (us : List Value) (vs : List V) (Q : VK) (E : XK), L2H.RoomH k A → L2H.Hot1 A p → L2H.PinOk outer H s p → Env0 P w K mg base A outer s H →
    BindsTo s fd args (ps.zip us) → Vals vs us → sp p vs H Q E → codeAny (model P w) A (.call (.ref f) args) (CR CX0 outer P w H s Q E) s
section
variable {P : Program} {w : World} {K : PySem.W.Frag} {mg : Str → Option Value} {base : Heap}
theorem okE {x qual : Str} {st : Stmt} {f : Addr} {fd : FuncData} {N ps : List Str} {k : Nat} {sp : Addr × Obj → Sp} (F : Fun K x qual st f fd) (S : FnScope N ps (defScope st)) (size : ∀ p vs H Q E, sp p vs H Q E → vs.length = ps.length)
    (body : ∀ (cdv : Value) (A : Around) (outer : List Env) (s : Shared) (H : Hp) (vs : List V) (Q : VK) (E : XK) (p : Addr × Obj), L2H.Hot1 A p → L2H.RoomH k (A.deeper (envOfC qual (defScope st) s.heap.objs.size f cdv)) → sp p vs H Q E →
      ∃ t, PSs (L2H.cxH CX0 P w K mg base N qual (defScope st) f cdv A outer s H E p) (defBody st) t ∧ t { nx := fun _ H2 => Q .non H2, rt := Q } (start N vs) H) : FnE P w K mg base (k + 1) f fd ps sp := by
  obtain ⟨_, _, _, _, _, _, cdv, _, _, rfl, lk, cd⟩ := F.ex
  refine ⟨size, ?_⟩
  intro p A outer s H args us vs Q E room hot pin env bt rv hsp
  have KX := env.mod.kin.keeps fun b o e => (env.bs b o e).1
  have NL := env.mod.nolimit.keeps fun b o e => (env.bs b o e).1
  refine codeAny_call_function room.depth (KX _ _ lk) rfl S.co S.gen rfl (PySem.W.codeRec_of KX cd) (bt _ _ _ _ ?_)
  refine wpAny_newFunctionEnv_cells S.kind (fun ⟨n, v⟩ hy => ?_) fun en een s1 x => ?_
  · cases S.par n (List.of_mem_zip hy).1 with
    | inl q => exact .inl q
    | inr q => exact .inr ⟨q, PySem.W.cellsFrom_some _ _ _ (.inl q)⟩
  · subst een
    refine ⟨NL.keeps x.toInCall.keep, codeAny_func ?_⟩
    obtain ⟨t, run, q0⟩ := body cdv A outer s H vs Q E p hot (room.deeper _) hsp
    have I := L2H.inv_startH (CX := CX0) (E := E) S pin env (size _ _ _ _ _ hsp) rv x
    refine wpAny_mono (run.run [] s1 (start N vs) H _ I q0) (fun fl s2 hs => ?_) fun _ _ z => z
    match fl, hs with
    | .ret _, ⟨v, _, H2, J, r, q⟩ => exact ⟨v, H2, J.os, J.bare, J.base, J.hok, r, q⟩
    | .next, ⟨_, H2, J, q⟩ => exact ⟨V.non, H2, J.os, J.bare, J.base, J.hok, rfl, q⟩
    | .brk, ⟨_, _, _, q⟩ => exact False.elim q
    | .cont, ⟨_, _, _, q⟩ => exact False.elim q
end
structure CalE (P : Program) (w : World) (K : PySem.W.Frag) (mg : Str → Option Value) (base : Heap) (k : Nat) (x : Str) (ps : List Str) (sp : Addr × Obj → Sp) : Prop where
  ex : ∃ (f : Addr) (fd : FuncData), FnE P w K mg base k f fd ps sp ∧ mg x = some (.ref f) ∧ PySem.W.keepIn K (.ref f) = true ∧ Binds K fd ps []
def tCallE (sp : Addr × Obj → Sp) (p : Addr × Obj) (t : TA) : TE := fun σ H Q => t σ H fun vs H1 => sp p vs H1 Q E0
theorem pe_cE {X : Cx} {k j : Nat} {x : Str} {ps : List Str} {sp : Addr × Obj → Sp} {q : Addr × Obj} {e : Expr} {es : List Expr} {t : TA} {p pos : Pos} (C : CalE X.prog X.w X.K X.mg X.base k x ps sp) (hr : L2H.RoomH j X.A) (hj : k ≤ j) (hot : L2H.Hot1 X.A q) (hq : q ∈ X.pn) (ha : PA X (e :: es) t)
    (hg : Gl X x := by rfl) (hdb : (x == ("__debug__" : Str)) = false := by decide) (he : starEach (e :: es) X.env = (false, eval e X.env) :: starEach es X.env := by rfl) (hpl : (backTo pos (starEach es X.env)).any (·.1) = false := by rfl) :
    PE X (.Call (.Name x p) (e :: es) [] pos) (tCallE sp q t) := by
  obtain ⟨f, fd, F, gm, kp, bd⟩ := C.ex
  constructor
  intro pins s σ H Q I h
  refine wpAny_Call_Name_kw (ld_glob I hg gm ?_ hdb)
  refine PySem.W.callWith_K (h₀ := X.base) I.ok.mod.kin kp (thn (ha.run pos pins s σ H _ I h) fun us s1 ⟨vs, H1, I1, r, z⟩ => ⟨I1.kIn, ?_⟩) he hpl
  have bl := bd s1 us I1.kIn (by rw [List.append_nil, ← r.length]; exact F.size _ _ _ _ _ z)
  rw [List.append_nil] at bl
  obtain ⟨p1, p2, p3, p4, p5⟩ := I1.pin q (List.mem_append_left _ hq)
  refine wpAny_call (codeAny_mono (F.go q X.A X.stack s1 H1 ⟨us, []⟩ us vs Q E0 (hr.mono hj) hot ⟨p1, p2, fun hm => (List.mem_cons.mp (I1.stkSub q.1 hm)).elim p3 p4, p5⟩ I1.env0 bl r z) fun res s2 hz => ?_)
  match res, hz with
  | .error _, hz => exact False.elim hz
  | .ok (.ret _), hz => exact I1.after hz
  | .ok .next, hz => exact False.elim hz
  | .ok .brk, hz => exact False.elim hz
  | .ok .cont, hz => exact False.elim hz
/-- the four error classes; D is the i-th of them -/
structure Kind (K : PySem.W.Frag) (cs : Nat → Addr) (D : Addr) (i : Nat) : Prop where
  ex : ExcC K D
  v : PySem.W.kitOne K (.ref D) (.type "ValueError") = some true
  k : ∀ j, j < 4 → PySem.W.kitOne K (.ref D) (.ref (cs j)) = some (decide (i = j))
theorem hot_of {A : Around} {a : Addr} {oe : Obj} {cls : Value} {d : Option Addr} (z : L2N.Zn cls d oe) (f : ∃ vs, oe.data = .fields vs) (h : A.handled = some (.ref a)) : L2H.Hot1 A (a, oe) := by
  obtain ⟨vs, e⟩ := f
  exact ⟨h, vs, e, z.2.2 vs e⟩
def words : List Str := ["bar", "bite", "table", "note"]
/-- the four classes, and what stands above them -/
structure Kinds (K : PySem.W.Frag) (mg : Str → Option Value) (cs : Nat → Addr) (cB : Addr) : Prop where
  gB : mg "BiteError" = some (.ref cB)
  o0 : Own K mg "NoBar" cB (cs 0)
  o1 : Own K mg "NoBite" cB (cs 1)
  o2 : Own K mg "NoTable" cB (cs 2)
  o3 : Own K mg "NoNote" cB (cs 3)
  k : ∀ i, i < 4 → Kind K cs (cs i) i
/-- the four answers of isinstance -/
def ansL (i : Nat) : List Bool := [decide (i = 0), decide (i = 1), decide (i = 2), decide (i = 3)]
/-- _law_word_of(e), e the error in hand, of the i-th class -/
def sp_law_word_of (K : PySem.W.Frag) (cs : Nat → Addr) : Addr × Obj → Sp := fun p vs H Q _ => ∃ (D : Addr) (i : Nat) (wd : Str), vs = [.ref p.1] ∧ p.2.cls = .ref D ∧ p.2.dict = none ∧ Kind K cs D i ∧ i < 4 ∧ words[i]? = some wd ∧ ∀ H', Same H H' → Q (.str wd) H'
/-- _law_word_of(e) in an except clause that holds the error at a -/
def tWord (K : PySem.W.Frag) (cs : Nat → Addr) (a : Addr) (cls : Value) (d : Option Addr) (m : Nat) : TE := fun σ H Q => ∃ (D : Addr) (i : Nat) (wd : Str), σ[m]? = some (some (.ref a)) ∧ cls = .ref D ∧ d = none ∧ Kind K cs D i ∧ i < 4 ∧ words[i]? = some wd ∧ ∀ H', Same H H' → Q (.str wd) H'
theorem pe_word {X : Cx} {cs : Nat → Addr} {a : Addr} {oe : Obj} {cls : Value} {d : Option Addr} {pn : List (Addr × Obj)} {j k : Nat} {x : Str} {ps : List Str} {e : Expr} {m : Nat} {p pos : Pos} (C : CalE X.prog X.w X.K X.mg X.base k x ps (sp_law_word_of X.K cs)) (hr : Room j X.A) (hj : k ≤ j) (hz : L2N.Zn cls d oe) (hf : ∃ vs, oe.data = .fields vs)
    (ha : PA (X.suite a ((a, oe) :: pn)) [e] (tCons (tVar m) tNil)) (hg : Gl X x := by rfl) (hdb : (x == ("__debug__" : Str)) = false := by decide) (hs : starEach (e :: []) X.env = (false, eval e X.env) :: starEach [] X.env := by rfl) (hpl : (backTo pos (starEach [] X.env)).any (·.1) = false := by rfl) :
    PE (X.suite a ((a, oe) :: pn)) (.Call (.Name x p) [e] [] pos) (tWord X.K cs a cls d m) := by
  have go := pe_cE (X := X.suite a ((a, oe) :: pn)) (q := (a, oe)) (p := p) (pos := pos) C (j := j) ⟨hr.dp, hr.un⟩ hj (hot_of hz hf rfl) (.head _) ha hg hdb hs hpl
  refine ⟨fun pins s σ H Q I h => go.run pins s σ H Q I ?_⟩
  obtain ⟨z1, z2, _⟩ := hz
  obtain ⟨D, i, wd, es, ec, ed, kd, i4, hw, q⟩ := h
  exact ⟨_, es, D, i, wd, rfl, z1.trans ec, z2.trans ed, kd, i4, hw, q⟩
/-! ### promises joined -/
section
variable {P : Program} {w : World} {K : PySem.W.Frag} {mg : Str → Option Value} {base : Heap} {k : Nat} {f : Addr} {fd : FuncData} {ps : List Str} {sp sp' : Sp}
/-- a def that lets nothing out, among those that may -/
theorem lift0 (F : FnOk P w K mg base CX0 k f fd ps sp) : FnOk P w K mg base (L2N.CX P w) k f fd ps (fun vs H Q _ => sp vs H Q E0) := by
  refine ⟨fun vs H Q E h => F.len vs H Q E0 h, fun A outer s H args us vs Q E hr e0 hb r h => ?_⟩
  refine codeAny_mono (F.run A outer s H args us vs Q E0 hr e0 hb r h) fun res s' hz => ?_
  match res, hz with
  | .error _, hz => exact False.elim hz
  | .ok (.ret _), hz => exact hz
  | .ok .next, hz => exact hz
  | .ok .brk, hz => exact hz
  | .ok .cont, hz => exact hz
theorem two (F : FnOk P w K mg base (L2N.CX P w) k f fd ps sp) (G : FnOk P w K mg base (L2N.CX P w) k f fd ps sp') : FnOk P w K mg base (L2N.CX P w) k f fd ps (fun vs H Q E => sp vs H Q E ∨ sp' vs H Q E) := by
  refine ⟨fun vs H Q E h => ?_, fun A outer s H args us vs Q E hr e0 hb r h => ?_⟩
  · rcases h with h | h
    · exact F.len vs H Q E h
    · exact G.len vs H Q E h
  · rcases h with h | h
    · exact F.run A outer s H args us vs Q E hr e0 hb r h
    · exact G.run A outer s H args us vs Q E hr e0 hb r h
end
/-- a def of one bar that asks for it first -/
def sp_xb (K : PySem.W.Frag) (cs : Nat → Addr) : Sp := fun vs H Q E => ∃ (a : Addr) (ns : List Int), vs = [.ref a] ∧ SqL K H a (ns.map V.int) ∧ (isBarB ns = true → ∀ v H', Same H H' → Q v H') ∧ (isBarB ns = false → E (.ref (cs 0)) none H)
def sp_badbar (K : PySem.W.Frag) (cs : Nat → Addr) : Sp := fun vs H _ E => ∃ (a : Addr) (ns : List Int), vs = [.ref a] ∧ SqL K H a (ns.map V.int) ∧ isBarB ns = false ∧ E (.ref (cs 0)) none H
/-- a table that is good, or bad by its bars, or bad by its length -/
def TCase (ds : List (List Int)) (o : Option Nat) : Prop := (o = none ∧ IsTable ds) ∨ (o = some 0 ∧ ds.length ≤ 3 ∧ ∃ d ∈ ds, isBarB d = false) ∨ (o = some 2 ∧ 3 < ds.length)
def sp_xt (K : PySem.W.Frag) (cs : Nat → Addr) : Sp := fun vs H Q E => ∃ (T : Addr) (xs : List V) (ds : List (List Int)) (o : Option Nat), vs = [.ref T] ∧ H T = some (.lst xs) ∧ LL H xs ds ∧ TCase ds o ∧ (o = none → ∀ v H', Same H H' → Q v H') ∧ (∀ i, o = some i → ∀ H', Same H H' → E (.ref (cs i)) none H')
def sp_badtable (K : PySem.W.Frag) (cs : Nat → Addr) : Sp := fun vs H _ E => ∃ (T : Addr) (xs : List V) (ds : List (List Int)) (i : Nat), vs = [.ref T] ∧ H T = some (.lst xs) ∧ LL H xs ds ∧ TCase ds (some i) ∧ ∀ H', Same H H' → E (.ref (cs i)) none H'
/-! ### a list comprehension whose element may let an error out -/
theorem note_same {x : Value} {e1 e2 : Env} (h : e1.frame = e2.frame) : noteFrame x e1 = noteFrame x e2 := by
  unfold noteFrame PySem.frameOf
  rw [h]
theorem traced_one {h B B' : Heap} {a : Addr} {Z Z' : Obj → Prop} {f f' : Value} (t : HandSPX.TracedZ h B a Z f) (t' : HandSPX.TracedZ h B' a Z' f') : f = f' := by
  obtain ⟨o, vs, T, oT, ts, g1, _, g3, g4, _, _, g7, g8, g9⟩ := t
  obtain ⟨o', vs', T', oT', ts', k1, _, k3, k4, _, _, k7, k8, k9⟩ := t'
  rw [g1] at k1
  cases k1
  rw [g3] at k3
  cases k3
  rw [g4] at k4
  cases k4
  rw [g7] at k7
  cases k7
  rw [g8] at k8
  cases k8
  rw [g9] at k9
  exact Option.some.inj k9
section
variable {X : Cx} {W : WX} {pins : List (Addr × Obj)} {σ : L2.St} {s3 : Shared} {H3 : Hp} {scope : Scope} {ce : Env} {fp : List Addr} {C : Addr}
theorem comp_out (hs : X.stack = X.env :: X.outer) (hf : X.env.frame = some X.env.locals) (tk : L2N.Takes X W) (hce : ce.frame = X.env.frame) (hcl : ce.locals = C)
    (conv : ∀ {pins' : List (Addr × Obj)} {σ' : L2.St} {H' : Hp} {s' : Shared}, Inv (X.blk s3 H3 scope ce fp) pins' σ' H' s' → Inv X pins σ H' s') (fpC : ∀ {H' : Hp}, H' C = none → FpOk X pins H' C)
    {pinsB : List (Addr × Obj)} {σB : L2.St} {H9 : Hp} {s9 : Shared} (I : Inv (X.blk s3 H3 scope ce fp) pinsB σB H9 s9) {u : Value} {s' : Shared} (c : L2N.CX X.prog X.w X.stack H9 s9 (fun cls d H => W cls d σ H) u s') {E₁ : Value → Shared → Prop} :
    wpAny (model X.prog X.w) X.A (noteFrame u ce) (fun _ s'' => CompFails (model X.prog X.w) X.A X.xe ce u s'') E₁ s' := by
  obtain ⟨a, B, sI, pins', σ', H', cls, d, rfl, J, nb, up, sky, na, os, ag, w⟩ := L2N.XE.of_call (W := fun cls d _ H => W cls d σ H) I (fun _ _ _ h => h) c
  obtain ⟨a0, B0, H0, cls0, d0, e0, fl0, _⟩ := c
  obtain rfl := Value.ref.inj e0
  have t0 := fl0.2.2.2
  have fly : HandSPX.FlyingZ B X.stack a (L2N.Zn cls d) s'.heap := by
    rcases sky with ⟨_, _, _, oe, vs, g1, _, g3, g4⟩ | fl | hd
    · obtain ⟨o, vs', T, _, _, k1, _, k3, k4, _⟩ := t0
      rw [g1] at k1
      cases k1
      rw [g3] at k3
      cases k3
      rw [g4] at k4
      cases k4
    · exact fl
    · have := traced_one t0 hd.2.2.2
      cases this
  have ok := (conv J).ok
  have hfr : X.A.frames = some (X.env :: X.outer) := by rw [ok.frames, hs]
  rw [note_same hce]
  rw [hs] at fly
  refine PXN.looks_onZ L2N.Zn.steady hfr hf fly fun h1 hd1 up1 => ?_
  rw [← hs] at hd1
  have J1 : Inv (X.blk s3 H3 scope ce fp) pins' σ' H' { s' with heap := h1 } := J.landed nb hd1.1 (up.trans up1) os ag
  obtain ⟨m, hn, _⟩ := J1.loc
  refine ⟨m, hn, fun h2 m' hn' sb => ?_⟩
  obtain ⟨oC, es, ep, gC, dC, _⟩ := hn
  have nC : H' C = none := by
    have z : H' ce.locals = none := J1.free
    rw [← hcl]
    exact z
  obtain ⟨f0, f1, f2, f3, f4, f5⟩ := fpC nC
  rw [hcl] at sb gC
  have IX : Inv X pins σ H' { s' with heap := h2 } := (conv J1).turned (t' := s'.toks) (fun b o hb e => (sb.2 b hb).trans e) f0 f1 f3 f4 f5
  have notF : ∀ {b : Addr} {o : Obj} {vs : Array Value}, h1.get? b = some o → o.data = .fields vs → b ≠ C := fun {b o vs} e k z => by
    rw [z, gC] at e
    cases e
    rw [dC] at k
    cases k
  obtain ⟨b1, b2, b3, oe, vs, T, oT, ts, t1, t2, t3, t4, t5, t6, t7, t8, t9⟩ := hd1
  have aC : a ≠ C := notF t1 t3
  have TC : T ≠ C := notF t7 t8
  have base2 : ∀ b o, (PySem.W.hideAll B [C]).get? b = some o → b ≠ C ∧ B.get? b = some o := fun b o e => by
    refine ⟨fun z => ?_, PySem.W.of_hideAll _ e⟩
    have q := PySem.W.hideAll_none _ (h := B) (show b ∈ [C] by rw [z]; exact List.mem_singleton.mpr rfl)
    rw [q] at e
    cases e
  have gone2 : ∀ {b : Addr}, B.get? b = none → (PySem.W.hideAll B [C]).get? b = none := fun {b} e => by
    cases z : (PySem.W.hideAll B [C]).get? b with
    | none => rfl
    | some o => rw [(base2 b o z).2] at e; cases e
  have st2 : (PySem.W.hideAll B [C]).StaysIn h2 := fun b o e => (sb.2 b (base2 b o e).1).trans (b1 b o (base2 b o e).2)
  have fr2 : h2.FunFrames (PySem.W.hideAll B [C]) X.stack := funFrames_none IX.stack fun L hL => gone2 (by
    rw [hs] at hL
    rw [hs] at b3
    exact (b3.mem hL).1)
  have tr2 : HandSPX.TracedZ h2 (PySem.W.hideAll B [C]) a (L2N.Zn cls d) (rawInt X.env.locals) := ⟨oe, vs, T, oT, ts, (sb.2 a aC).trans t1, t2, t3, t4, gone2 t5, t6, (sb.2 T TC).trans t7, t8, t9⟩
  have JX : Inv X pins σ H' { sI with heap := PySem.W.hideAll sI.heap [C] } := (conv J).turned (t' := sI.toks) (fun b o hb e => PySem.W.hideAll_get _ e (by simpa using hb)) f0 f1 f3 f4 f5
  unfold PySem.passOn
  refine wpAny_bind (wpAny_field ((sb.2 a aC).trans t1) t3 t4 ?_)
  rw [if_neg (show ¬ ((Value.ref T == Value.none) = true) from by simp)]
  have fin : wpAny (model X.prog X.w) X.A (setFlight (.ref a) ce.frame) (fun _ s4 => wpAny (model X.prog X.w) X.A (throw (.ref a) : Sem Value) (fun _ _ => False) X.xe s4) X.xe { s' with heap := h2 } := by
    rw [hce, hf]
    refine HandSPX.setFlight_anyZ st2 fr2 tr2 fun h3 r1 r2 r3 up3 => wpAny_throw (tk _ _ ?_)
    refine ⟨a, PySem.W.hideAll B [C], _, pins, σ, H', cls, d, rfl, JX, fun b o e nf => ?_, fun b o e nf => ?_, .inr (.inr ⟨r1, gone2 b2, r2, r3⟩), na, os, ag, w⟩
    · have e' := PySem.W.of_hideAll _ e
      refine PySem.W.hideAll_get _ (nb b o e' nf) fun z => ?_
      have q := PySem.W.hideAll_none _ (h := sI.heap) z
      have e : (PySem.W.hideAll sI.heap [C]).get? b = some o := e
      rw [q] at e
      cases e
    · have e' := PySem.W.of_hideAll _ e
      have bC : b ≠ C := fun z => by
        have q := PySem.W.hideAll_none _ (h := sI.heap) (show b ∈ [C] by rw [z]; exact List.mem_singleton.mpr rfl)
        have e : (PySem.W.hideAll sI.heap [C]).get? b = some o := e
        rw [q] at e
        cases e
      obtain ⟨sl, q⟩ := (up.trans up1) b o e' nf
      obtain ⟨sl2, q2⟩ := up3 b _ ((sb.2 b bC).trans q) nf
      exact ⟨sl2, q2⟩
  first
    | exact wpAny_bind (wpAny_pure (wpAny_bind fin))
    | exact wpAny_bind fin
end
/-- [elt for target in iter], where what leaves elt may leave the block -/
def tLcN (wi : TI) (g : TG) (te : XK → TE) (W : WX) (vs : List Nat) : TE := fun σ H Q => tLc wi g tYes (te fun cls d H' => W cls d σ H') vs σ H Q
theorem pe_lcN {X : Cx} {W : WX} {elt tg iter : Expr} {scope : Scope} {own : List (Str × Nat)} {pos : Pos} {wi : TI} {g : TG} {te : XK → TE} (calm : X.calm = true) (hs : X.stack = X.env :: X.outer) (hf : X.env.frame = some X.env.locals) (nd : X.N.Nodup) (tk : L2N.Takes X W)
    (over : PI X tg iter wi) (ok : BlkOk X.N X.env.scope scope own) (aim : ∀ (s : Shared) (H : Hp) (C : Addr) (cl : List (Str × Addr)) (fp : List Addr), PG (X.blk s H scope (compEnvC scope cl C X.env) fp) tg g)
    (each : ∀ (s : Shared) (H : Hp) (C : Addr) (cl : List (Str × Addr)) (fp : List Addr) (xe : Value → Shared → Prop) (Ex : XK), (∀ pins' σ' H2 s2 u s', Inv (X.blk s H scope (compEnvC scope cl C X.env) fp) pins' σ' H2 s2 → L2N.CX X.prog X.w X.stack H2 s2 Ex u s' → xe u s') →
      PE ((X.blk s H scope (compEnvC scope cl C X.env) fp).wish xe) elt (te Ex)) (set : ∀ x, foldedSetIterable iter X.env x = pure x := by intro _; rfl) : PE X (.ListComp elt [⟨tg, iter, [], 0⟩] scope pos) (tLcN wi g te W (own.map (·.2))) := by
  constructor
  intro pins s σ H Q I h
  have shut : ∀ y ∈ scope.names, y.2 = .free → ∃ c, X.env.cells.lookup y.1 = some c := fun y hy e => (ok.free y hy e).elim (fun z => I.ok.has _ (.inl z)) (fun z => I.ok.has _ (.inr z))
  rw [eval_ListComp]
  refine comprehension_at (use := none) rfl set (closure_ok shut) ok.kind (fun y hy e => by rw [ok.uniq y hy, e]) ?_
  refine thn (over.run pins s σ H _ I h) fun xv s1 hx => thn hx fun itv s2 h2 => ?_
  obtain ⟨it, fp, tn, J, H2, rfl, I2, T, on2, at2, rd⟩ := h2
  refine wpAny_newObj_type (newEnv_comp ?_) (Nat.zero_le sizeLine)
  obtain ⟨D, eD⟩ : ∃ D, s2.heap.objs.size = D := ⟨_, rfl⟩
  rw [eD]
  have free2 : H2 D = none := I2.hok.fresh (Nat.le_of_eq eD)
  obtain ⟨V, ⟨m0, v0⟩, turn⟩ := rd D free2
  obtain ⟨s3, e3⟩ : ∃ s3 : Shared, ({ s2 with heap := s2.heap.push { cls := .type "list", data := .seq ([] : List Value).toArray } } : Shared) = s3 := ⟨_, rfl⟩
  rw [e3]
  have J3 : Inv X pins σ (upd H2 D (.lst [])) s3 := by
    subst e3
    have laid := I2.laid (t' := s2.toks) (h' := s2.heap.push { cls := .type "list", data := .seq ([] : List Value).toArray }) (o := .lst []) (fun b o e => Heap.get?_push_of_some _ e) (Nat.le_of_eq eD)
    refine laid ⟨Nat.zero_le _, [], 0, .nil, ?_⟩
    subst eD
    exact (Heap.get?_push_size s2.heap rfl)
  have grow : s3.heap = s2.heap.push { cls := .type "list", data := .seq ([] : List Value).toArray } := by subst e3; rfl
  have lt2 : ∀ b ∈ fp, b < s2.heap.objs.size := fun b hb => let ⟨_, e, _⟩ := T.obj _ _ on2 b hb; Heap.lt_size e
  have at3 : ∀ b ∈ fp, FpOk X pins (upd H2 D (.lst [])) b ∧ b < s3.heap.objs.size := fun b hb => by
    have l := lt2 b hb
    constructor
    · refine ⟨?_, (at2 b hb).2⟩
      have n : b ≠ D := by rw [← eD]; exact Nat.ne_of_lt l
      rw [upd_ne n]
      exact (at2 b hb).1
    · rw [grow, Heap.size_push]
      exact Nat.lt_succ_of_lt l
  have on3 : tn 0 s3.heap := by
    rw [grow]
    exact T.keep _ _ _ on2 fun _ _ _ e => Heap.get?_push_of_some _ e
  have J4 := block_start J3 ok nd at3
  have pg := aim s3 (upd H2 D (.lst [])) s3.heap.objs.size (cellsFrom (s3.heap.objs.size + 1) scope.names (cloFrom X.env.cells scope.names [])) fp
  have pe := each s3 (upd H2 D (.lst [])) s3.heap.objs.size (cellsFrom (s3.heap.objs.size + 1) scope.names (cloFrom X.env.cells scope.names [])) fp
  show codeAny _ _ (.compStart (.ListComp elt [⟨tg, iter, [], 0⟩] scope pos) 0 (.ref it) (.ref D) (compEnvC scope (cellsFrom (s3.heap.objs.size + 1) scope.names (cloFrom X.env.cells scope.names [])) s3.heap.objs.size X.env))
    (compEnds (model X.prog X.w) X.A X.xe none (EP X pins σ Q) (.ref D) (compEnvC scope (cellsFrom (s3.heap.objs.size + 1) scope.names (cloFrom X.env.cells scope.names [])) s3.heap.objs.size X.env)) { s3 with heap := pushCells (s3.heap.push { cls := .type "dict", data := .dict #[] }) scope.names }
  have none3 : ∀ b ∈ fp, (upd H2 D (.lst [])) b = none := fun b hb => (at3 b hb).1.1
  generalize ece : compEnvC scope (cellsFrom (s3.heap.objs.size + 1) scope.names (cloFrom X.env.cells scope.names [])) s3.heap.objs.size X.env = ce at J4 pg pe ⊢
  have cl : ce.locals = s3.heap.objs.size := by subst ece; rfl
  have cf : ce.frame = X.env.frame := by subst ece; rfl
  generalize upd H2 D (.lst []) = H3 at J3 J4 pg pe v0 none3 at3
  generalize es4 : ({ s3 with heap := pushCells (s3.heap.push { cls := .type "dict", data := .dict #[] }) scope.names } : Shared) = s4 at J4 ⊢
  have on4 : tn 0 s4.heap := by
    subst es4
    exact T.keep _ _ _ on3 fun _ _ _ e => pushCells_keeps _ _ _ _ (Heap.get?_push_of_some _ e)
  have conv : ∀ {pins' : List (Addr × Obj)} {σ' : L2.St} {H' : Hp} {s' : Shared}, Inv (X.blk s3 H3 scope ce fp) pins' σ' H' s' → Inv X pins σ H' s' := fun Y =>
    J3.call' (ch := fp) Y.os Y.base Y.hok Y.bare fun b hb => let z := (at3 b hb).1; ⟨z.2.2.2.1, z.2.1, z.2.2.2.2.1, z.2.2.2.2.2⟩
  have fpC : ∀ {H' : Hp}, H' s3.heap.objs.size = none → FpOk X pins H' s3.heap.objs.size := fun z => J3.fpOk (Nat.le_refl _) z
  have stay : ∀ {σ' : L2.St} {H' : Hp} {s' : Shared}, Inv (X.blk s3 H3 scope ce fp) [] σ' H' s' → (∀ b ∈ fp, H' b = none) → ∀ b ∈ fp, FpOk (X.blk s3 H3 scope ce fp) [] H' b := fun Y n b hb =>
    ⟨n b hb, (Y.ok.exf b hb).1, Y.ok.exfs b hb, .inl hb, (Y.ok.exf b hb).2, fun p hp => by cases hp⟩
  have away : ∀ pins' σ' H8 s8 u s', Inv (X.blk s3 H3 scope ce fp) pins' σ' H8 s8 → L2N.CX X.prog X.w X.stack H8 s8 (fun cls d H' => W cls d σ H') u s' →
      notedBy (model X.prog X.w) X.A ce (fun e s'' => compEnds (model X.prog X.w) X.A X.xe none (EP X pins σ Q) (.ref D) ce (.error e) s'') u s' := fun pins' σ' H8 s8 u s' Y c => comp_out hs hf tk cf cl conv fpC Y c
  have loop : codeAny (model X.prog X.w) X.A (.compLoop (.ListComp elt [⟨tg, iter, [], 0⟩] scope pos) 0 (.ref it) (.ref D) ce) (compEnds (model X.prog X.w) X.A X.xe none (EP X pins σ Q) (.ref D) ce) s4 := by
    have elem := pe _ _ away
    refine compLoop_any (fun n s' => ∃ i H', Inv (X.blk s3 H3 scope ce fp) [] (wipe σ (own.map (·.2))) H' s' ∧ tn i s'.heap ∧ (∀ b ∈ fp, H' b = none) ∧ V i n H') ?_ m0 ⟨0, H3, J4, on4, none3, v0⟩
    rintro n s5 ⟨i, H5, J5, on5, n5, v5⟩
    rcases turn i n H5 v5 with ⟨stop, fin⟩ | ⟨go, Nx, less, step⟩
    · refine thnF (T.done (X.blk s3 H3 scope ce fp) rfl rfl rfl calm i [] s5 _ H5 (fun _ _ => False) J5 (stay J5 n5) on5 stop) ?_
      rintro r s6 ⟨rfl, J6⟩
      obtain ⟨m, ns6, _⟩ := J6.loc
      refine ⟨m, ns6, fun h' sb => ?_⟩
      have z : H5 s3.heap.objs.size = none := by
        rw [← cl]
        exact J6.free
      obtain ⟨f0, f1, f2, f3, f4, f5⟩ := fpC z
      exact ⟨.ref D, H5, (conv J6).turned (t' := s6.toks) (fun b o hb e => (sb.2 b (by rw [cl]; exact hb)).trans e) f0 f1 f3 f4 f5, rfl, fin⟩
    · refine thnF (T.item (X.blk s3 H3 scope ce fp) rfl rfl rfl calm i [] s5 _ H5 (fun _ _ => False) J5 (stay J5 n5) on5 go) ?_
      rintro r s6 ⟨u, rfl, h6⟩
      refine thnF h6 fun _ s7 ⟨x, H7, J7, r7, y7, on7, n7⟩ => ?_
      have P7 := J7.pinned (stay J7 n7) (T.obj _ _ on7)
      refine thnF (pg.run _ s7 _ H7 x u _ P7 r7 (step x H7 y7)) fun _ s8 ⟨σ8, H8, J8, w8, q8⟩ => ?_
      refine thnF ((pts_nil (X := X.blk s3 H3 scope ce fp)).run _ s8 σ8 H8 _ J8 q8) fun b s9 ⟨H9, J9, q9⟩ => ?_
      have next : ∀ {s' : Shared} {H' : Hp}, Inv (X.blk s3 H3 scope ce fp) ([] ++ pinsAt fp s7.heap) σ8 H' s' → Nx H' → ∃ m, m < n ∧ ∃ i H', Inv (X.blk s3 H3 scope ce fp) [] (wipe σ (own.map (·.2))) H' s' ∧ tn i s'.heap ∧ (∀ b ∈ fp, H' b = none) ∧ V i m H' := fun {s' H'} Y nx => by
        obtain ⟨m', hm, v'⟩ := less H' nx
        have pin : ∀ b ∈ fp, ∀ o, s7.heap.get? b = some o → s'.heap.get? b = some o ∧ H' b = none := fun b hb o e => by
          have z := Y.pin (b, o) (List.mem_append_right _ (List.mem_append_right _ (mem_pinsAt hb e)))
          exact ⟨z.1, z.2.1⟩
        refine ⟨m', hm, i + 1, H', ?_, T.keep _ _ _ on7 fun b hb o e => (pin b hb o e).1, fun b hb => ?_, v'⟩
        · refine (Y.unpinned (pins := [])).weak ?_ fun j v e => ?_
          · rw [← w8, wipe_length]
          · rw [← w8] at e
            exact (wipe_some e).1
        · obtain ⟨o, e, _⟩ := T.obj _ _ on7 b hb
          exact (pin b hb o e).2
      cases b with
      | false =>
        simp only [Bool.false_eq_true, if_false] at q9 ⊢
        exact next J9 q9
      | true =>
        simp only [if_true] at q9 ⊢
        refine wpAny_mono (elem.run _ s9 σ8 H9 _ (J9.wish _) q9) (fun z s10 hz => ?_) (fun _ _ e => e)
        obtain ⟨y, H10, J10, r10, acc, g10, l10, nx⟩ := hz
        exact app_ok (X := X.blk s3 H3 scope ce fp) J10.unwish g10 l10 r10 fun s11 J11 => next J11 nx
  exact codeAny_compStart_list loop (T.self X.A 0 _ _ _ on4 loop)
/-! ### any text as a note -/
def isFig (c : Nat) : Prop := 49 ≤ c ∧ c ≤ 53
instance (c : Nat) : Decidable (isFig c) := inferInstanceAs (Decidable (49 ≤ c ∧ c ≤ 53))
def digits (cs : List Nat) : List Int := cs.map fun c : Nat => (c : Int) - 48
/-- the bar that a word tells, if any -/
def barOf (cs : List Nat) : Option (List Int) := if (∀ c ∈ cs, isFig c) ∧ isBarB (digits cs) = true then some (digits cs) else none
def barsOf : List Str → Option (List (List Int))
  | [] => some []
  | x :: r => match barOf (TL.tl x), barsOf r with
    | some d, some ds => some (d :: ds)
    | _, _ => none
def noteOf (x : Str) : Option (List (List Int)) := if x = Str.ofString "" then some [] else if (Txt.split x blank).length ≤ 3 then barsOf (Txt.split x blank) else none
theorem fig_list : (Str.ofString "12345").cps.toList = [49, 50, 51, 52, 53] := by decide +kernel
theorem fig_mem {c : Nat} : c ∈ (Str.ofString "12345").cps.toList ↔ isFig c := by
  rw [fig_list]
  constructor
  · intro h
    simp at h
    unfold isFig
    omega
  · intro ⟨h1, h2⟩
    simp
    omega
theorem fig_val {c : Nat} (h : isFig c) : ∃ x : Int, c = 48 + x.toNat ∧ 1 ≤ x ∧ x ≤ 5 ∧ (c : Int) - 48 = x := ⟨(c : Int) - 48, by have := h.1; have := h.2; omega, by have := h.1; omega, by have := h.2; omega, rfl⟩
theorem barOf_some {cs : List Nat} (h : ∀ c ∈ cs, isFig c) (b : isBarB (digits cs) = true) : barOf cs = some (digits cs) := if_pos ⟨h, b⟩
theorem barOf_bad {cs : List Nat} {c : Nat} (hc : c ∈ cs) (h : ¬ isFig c) : barOf cs = none := if_neg fun z => h (z.1 c hc)
theorem barOf_no {cs : List Nat} (b : isBarB (digits cs) = false) : barOf cs = none := if_neg fun z => by rw [b] at z; cases z.2
theorem spl_len (S : List Nat) : ∀ (L : List Nat) (k : Nat) (acc : List Nat), (∀ p ∈ TL.spl S k acc L, p.length ≤ acc.length + L.length) ∧ (TL.spl S k acc L).length ≤ L.length + 1
  | [], k, acc => by
    rw [TL.spl_nil]
    refine ⟨fun p hp => ?_, Nat.le_refl _⟩
    rw [List.mem_singleton.mp hp]
    exact Nat.le_refl _
  | c :: r, 0, acc => by
    show (∀ p ∈ (if TL.pre S (c :: r) = true then acc :: TL.spl S (S.length - 1) [] r else TL.spl S 0 (acc ++ [c]) r), _) ∧ (if TL.pre S (c :: r) = true then acc :: TL.spl S (S.length - 1) [] r else TL.spl S 0 (acc ++ [c]) r).length ≤ _
    split
    · obtain ⟨h1, h2⟩ := spl_len S r (S.length - 1) []
      refine ⟨fun p hp => ?_, by rw [List.length_cons, List.length_cons]; omega⟩
      rcases List.mem_cons.mp hp with e | e
      · rw [e]
        omega
      · have := h1 p e
        rw [List.length_cons]
        have e0 : ([] : List Nat).length = 0 := rfl
        omega
    · obtain ⟨h1, h2⟩ := spl_len S r 0 (acc ++ [c])
      refine ⟨fun p hp => ?_, by rw [List.length_cons]; omega⟩
      have := h1 p hp
      rw [List.length_append] at this
      rw [List.length_cons]
      have e1 : ([c] : List Nat).length = 1 := rfl
      omega
  | c :: r, k + 1, acc => by
    obtain ⟨h1, h2⟩ := spl_len S r k acc
    refine ⟨fun p hp => ?_, ?_⟩
    · have := h1 p hp
      rw [List.length_cons]
      omega
    · show (TL.spl S k acc r).length ≤ _
      rw [List.length_cons]
      omega
theorem split_len (x : Str) : (∀ p ∈ Txt.split x blank, (TL.tl p).length ≤ x.length) ∧ (Txt.split x blank).length ≤ x.length + 1 := by
  have e := TL.split_spl x blank (by rw [tl_blank]; simp) (TL.kind_ok (by decide +kernel))
  obtain ⟨h1, h2⟩ := spl_len (TL.tl blank) (TL.tl x) 0 []
  rw [← e] at h1 h2
  rw [TL.len_tl]
  refine ⟨fun p hp => ?_, by rw [List.length_map] at h2; exact h2⟩
  have := h1 (TL.tl p) (List.mem_map_of_mem hp)
  have e0 : ([] : List Nat).length = 0 := rfl
  omega
theorem barsOf_some {ws : List Str} {ds : List (List Int)} (h : barsOf ws = some ds) : ds.length = ws.length ∧ ∀ (i : Nat) (x : Str), ws[i]? = some x → ∃ d, ds[i]? = some d ∧ barOf (TL.tl x) = some d := by
  induction ws generalizing ds with
  | nil =>
    obtain rfl := Option.some.inj h
    exact ⟨rfl, fun i x e => by simp at e⟩
  | cons y r ih =>
    unfold barsOf at h
    cases hb : barOf (TL.tl y) with
    | none => rw [hb] at h; cases h
    | some d =>
      cases hr : barsOf r with
      | none => rw [hb, hr] at h; cases h
      | some es =>
        rw [hb, hr] at h
        obtain rfl := Option.some.inj h
        obtain ⟨h1, h2⟩ := ih hr
        refine ⟨by rw [List.length_cons, List.length_cons, h1], fun i x e => ?_⟩
        cases i with
        | zero =>
          have e : some y = some x := e
          obtain rfl := Option.some.inj e
          exact ⟨d, rfl, hb⟩
        | succ i => exact h2 i x (by simpa using e)
theorem barsOf_none {ws : List Str} {i : Nat} {x : Str} (e : ws[i]? = some x) (h : barOf (TL.tl x) = none) : barsOf ws = none := by
  cases z : barsOf ws with
  | none => rfl
  | some ds =>
    obtain ⟨d, _, hd⟩ := (barsOf_some z).2 i x e
    rw [h] at hd
    cases hd
theorem barsOf_exists {ws : List Str} (h : ∀ x ∈ ws, barOf (TL.tl x) ≠ none) : ∃ ds, barsOf ws = some ds := by
  induction ws with
  | nil => exact ⟨[], rfl⟩
  | cons y r ih =>
    obtain ⟨es, he⟩ := ih fun x hx => h x (List.mem_cons_of_mem _ hx)
    cases hb : barOf (TL.tl y) with
    | none => exact absurd hb (h y List.mem_cons_self)
    | some d =>
      refine ⟨d :: es, ?_⟩
      unfold barsOf
      rw [hb, he]
theorem barsOf_snoc {y : Str} {d : List Int} (hd : barOf (TL.tl y) = some d) : ∀ {ws : List Str} {ds : List (List Int)}, barsOf ws = some ds → barsOf (ws ++ [y]) = some (ds ++ [d])
  | [], ds, h => by
    obtain rfl := Option.some.inj h
    show barsOf [y] = some [d]
    unfold barsOf
    rw [hd]
    rfl
  | x :: r, ds, h => by
    unfold barsOf at h
    cases hb : barOf (TL.tl x) with
    | none => rw [hb] at h; cases h
    | some e =>
      cases hr : barsOf r with
      | none => rw [hb, hr] at h; cases h
      | some es =>
        rw [hb, hr] at h
        obtain rfl := Option.some.inj h
        have ih := barsOf_snoc hd hr
        show barsOf (x :: (r ++ [y])) = some (e :: (es ++ [d]))
        unfold barsOf
        rw [hb, ih]
theorem noteOf_nil : noteOf (Str.ofString "") = some [] := if_pos rfl
theorem noteOf_many {x : Str} (h : x ≠ Str.ofString "") (l : ¬ (Txt.split x blank).length ≤ 3) : noteOf x = none := by
  unfold noteOf
  rw [if_neg h, if_neg l]
theorem noteOf_few {x : Str} (h : x ≠ Str.ofString "") (l : (Txt.split x blank).length ≤ 3) : noteOf x = barsOf (Txt.split x blank) := by
  unfold noteOf
  rw [if_neg h, if_pos l]
theorem perm_desc : ∀ {l m : List Int}, l.Perm m → l.Pairwise (· ≥ ·) → m.Pairwise (· ≥ ·) → l = m
  | [], m, h, _, _ => h.nil_eq
  | x :: l, [], h, _, _ => absurd h.symm.nil_eq (by simp)
  | x :: l, y :: m, h, hl, hm => by
    rw [List.pairwise_cons] at hl hm
    have e : x = y := by
      rcases List.mem_cons.mp (h.mem_iff.mp List.mem_cons_self) with z | z
      · exact z
      rcases List.mem_cons.mp (h.mem_iff.mpr List.mem_cons_self) with z2 | z2
      · exact z2.symm
      have h1 := hl.1 y z2
      have h2 := hm.1 x z
      omega
    subst e
    rw [perm_desc h.cons_inv hl.2 hm.2]
theorem digits_rg {cs : List Nat} (h : ∀ c ∈ cs, isFig c) : ∀ x ∈ digits cs, 1 ≤ x ∧ x ≤ 5 := fun x hx => by
  obtain ⟨c, hc, rfl⟩ := List.mem_map.mp hx
  have := h c hc
  have h1 := this.1
  have h2 := this.2
  constructor <;> omega
theorem bar_test {d ms : List Int} (rg : ∀ x ∈ d, 1 ≤ x ∧ x ≤ 5) (hp : ms.Perm d) (ho : ms.Pairwise (· ≥ ·)) : isBarB d = true ↔ ¬ ((d.length : Int) < 1) ∧ ¬ ((d.length : Int) > 5) ∧ d = ms := by
  unfold isBarB
  rw [Bool.and_eq_true, decide_eq_true_eq, falls_iff]
  constructor
  · rintro ⟨⟨h1, h5⟩, hd, _⟩
    exact ⟨by omega, by omega, perm_desc hp.symm hd ho⟩
  · rintro ⟨h1, h5, e⟩
    exact ⟨⟨by omega, by omega⟩, by rw [e]; exact ho, rg⟩
theorem fig0_at {c : Nat} (h : isFig c) : Builtin.Str.occurrences (Str.ofString "012345") ⟨#[c]⟩ 0 (Str.ofString "012345").length 1 = (c - 48) :: [] := by
  have h1 := h.1
  have h2 := h.2
  rcases (by omega : c = 49 ∨ c = 50 ∨ c = 51 ∨ c = 52 ∨ c = 53) with rfl | rfl | rfl | rfl | rfl <;> decide +kernel
theorem noteOf_badword {x : Str} (h : x ≠ Str.ofString "") {i : Nat} {y : Str} (e : (Txt.split x blank)[i]? = some y) (hn : barOf (TL.tl y) = none) : noteOf x = none := by
  by_cases l : (Txt.split x blank).length ≤ 3
  · rw [noteOf_few h l]
    exact barsOf_none e hn
  · exact noteOf_many h l
theorem str_app_len (a b : Str) : (a ++ b).length = a.length + b.length := by
  rw [TL.len_tl, TL.tl_append, List.length_append, ← TL.len_tl, ← TL.len_tl]
theorem join_len {ws : List Str} {m : Nat} (h : ∀ x ∈ ws, x.length ≤ m) : (Txt.join blank ws).length ≤ (m + 1) * ws.length := by
  rw [TL.len_tl, TL.join_eq, TL.tl_join, tl_blank]
  have := joinL_len [32] m (l := ws.map TL.tl) fun x hx => by
    obtain ⟨y, hy, rfl⟩ := List.mem_map.mp hx
    rw [← TL.len_tl]
    exact h y hy
  rw [List.length_map] at this
  exact this
theorem sum_len {ws : List Str} {m : Nat} (h : ∀ x ∈ ws, x.length ≤ m) : (ws.map (·.length)).sum ≤ m * ws.length := by
  induction ws with
  | nil => exact Nat.zero_le _
  | cons x r ih =>
    have h1 := h x List.mem_cons_self
    have h2 := ih fun y hy => h y (List.mem_cons_of_mem _ hy)
    rw [List.map_cons, List.sum_cons, List.length_cons, Nat.mul_succ]
    show x.length + _ ≤ _
    omega
/-! ### the text -/
def topS (i : Nat) : Stmt := PySem.Challenge.pw_bitebar_k15_read.main.body.getD i (.Pass ⟨0, 0, 0, 0⟩)
abbrev s_is_bar : Stmt := topS 9
abbrev N_is_bar : List Str := ["bar", "before", "pieces"]
theorem sc_is_bar : FnScope N_is_bar ["bar"] (defScope s_is_bar) := ⟨rfl, rfl, rfl, by decide +kernel, rfl, by decide +kernel, by decide +kernel⟩
section
variable {P : Program} {w : World} {K : PySem.W.Frag} {mg : Str → Option Value} {base : Heap}
/-- is_bar(bar) -/
def sp_is_bar (K : PySem.W.Frag) : Sp := fun vs H Q _ => ∃ (a : Addr) (ns : List Int), vs = [.ref a] ∧ SqL K H a (ns.map V.int) ∧ Q (.bl (isBarB ns)) H
theorem ok_is_bar {f : Addr} {fd : FuncData} (F : Fun K "is_bar" "is_bar" s_is_bar f fd) (m_len : mg "len" = none) {t1 t2 : Tok} (g_MOST_ROWS : mg "MOST_ROWS" = some (.int 5 t1)) (g_MOST_PIECES : mg "MOST_PIECES" = some (.int 5 t2)) :
    FnOk P w K mg base CX0 1 f fd ["bar"] (sp_is_bar K) := by
  refine F.ok sc_is_bar (fun vs H Q E h => ?_) (fun cdv A outer s H vs Q E hr h => ?_)
  · obtain ⟨a, ns, rfl, _⟩ := h
    rfl
  · obtain ⟨a, ns, rfl, hS, q⟩ := h
    have hl : (ns.map V.int).length = ns.length := List.length_map _
    refine ⟨_, (pss_cons (ps_if (PW.pt (pw_or (pt_cmpR op_lt (pe_callB (lenK (K := K)) (by rfl) m_len PySem.boot_len (pa_cons (pv 0) pa_nil)) pe_int (nomark _)) (pw_or1 (pt_cmpR op_gt (pe_callB (lenK (K := K)) (by rfl) m_len PySem.boot_len (pa_cons (pv 0) pa_nil)) (pe_glob (v := .int 5) (by rfl) g_MOST_ROWS ⟨_, rfl⟩) (nomark _)))))
        (pss_one (ps_ret pe_bl))
        pss_nil)
      (pss_cons (ps_set (i := 1) sc_is_bar.nd rfl (.inl rfl) (pe_glob (v := .int 5) (by rfl) g_MOST_PIECES ⟨_, rfl⟩))
      (pss_cons (ps_for PassesOwn.never rfl (pi_listK (K := K) (pv 0)) (pg_name (i := 2) sc_is_bar.nd rfl (.inl rfl))
        (pss_cons (ps_if (PW.pt (pw_or (pt_cmpR op_lt (pv 2) pe_int (nomark _)) (pw_or1 (pt_cmpR op_gt (pv 2) (pv 1) (nomark _)))))
          (pss_one (ps_ret pe_bl))
          pss_nil)
        (pss_one (ps_set (i := 1) sc_is_bar.nd rfl (.inl rfl) (pv 2)))))
      (pss_one (ps_ret pe_bl))))), ?_⟩
    refine ⟨_, rfl, a, _, rfl, .inl hS, _, _, rfl, rfl, _, rfl, ite2 (fun c => iteT ?_) (fun c => ?_)⟩
    · have c' := of_decide_eq_true c
      rw [hl] at c'
      have e : isBarB ns = false := by
        unfold isBarB
        rw [decide_eq_false (by omega), Bool.false_and]
      rw [e] at q
      exact q
    · refine ⟨_, rfl, a, _, rfl, .inl hS, _, _, rfl, rfl, _, rfl, ite2 (fun c2 => ?_) (fun c2 => ?_)⟩
      · have c' := of_decide_eq_true c2
        rw [hl] at c'
        have e : isBarB ns = false := by
          unfold isBarB
          rw [decide_eq_false (by omega), Bool.false_and]
        rw [e] at q
        exact q
      · have c1 := of_decide_eq_false (Bool.eq_false_iff.mpr c)
        have c2 := of_decide_eq_false (Bool.eq_false_iff.mpr c2)
        rw [hl] at c1 c2
        have e : isBarB ns = falls 5 ns := by
          unfold isBarB
          rw [decide_eq_true (by omega), Bool.true_and]
        rw [e] at q
        refine ⟨_, rfl, a, rfl, ⟨_, hS⟩, for_list (K := K) (a := a) (xs := ns.map V.int) (fun i σ H' => ∃ (m : Int) (v : Option V), σ = [some (.ref a), some (.int m), v] ∧ H' = H ∧ falls 5 ns = falls m (ns.drop i))
          ⟨5, none, rfl, rfl, rfl⟩ (fun i σ H' _ ⟨_, _, _, e, _⟩ => e ▸ hS) ?_ ?_⟩
        · rintro i y σ H' hi ⟨m, v, rfl, rfl, ef⟩
          obtain ⟨z, hz, rfl⟩ := map_get hi
          have hd : ns.drop i = z :: ns.drop (i + 1) := by
            obtain ⟨hi', e⟩ := List.getElem?_eq_some_iff.mp hz
            rw [List.drop_eq_getElem_cons hi', e]
          rw [hd, falls] at ef
          refine ⟨_, rfl, _, _, rfl, rfl, _, rfl, ite2 (fun c => iteT ?_) (fun c => ?_)⟩
          · have c' := of_decide_eq_true c
            rw [decide_eq_false (by omega), Bool.false_and] at ef
            rw [ef] at q
            exact q
          · refine ⟨_, rfl, _, rfl, _, _, rfl, rfl, _, rfl, ite2 (fun c2 => ?_) (fun c2 => ?_)⟩
            · have c' := of_decide_eq_true c2
              rw [decide_eq_false (by omega), Bool.false_and] at ef
              rw [ef] at q
              exact q
            · have c3 := of_decide_eq_false (Bool.eq_false_iff.mpr c)
              have c4 := of_decide_eq_false (Bool.eq_false_iff.mpr c2)
              rw [decide_eq_true (by omega), Bool.true_and] at ef
              exact ⟨_, rfl, z, some (.int z), rfl, rfl, ef⟩
        · rintro σ H' ⟨m, v, rfl, rfl, ef⟩
          rw [hl, List.drop_length, falls] at ef
          rw [ef] at q
          exact q
end
abbrev s_bar_of : Stmt := topS 13
abbrev N_bar_of : List Str := ["word", "sign", "found"]
theorem sc_bar_of : FnScope N_bar_of ["word"] (defScope s_bar_of) := ⟨rfl, rfl, rfl, by decide +kernel, rfl, by decide +kernel, by decide +kernel⟩
section
variable {P : Program} {w : World} {K : PySem.W.Frag} {mg : Str → Option Value} {base : Heap}
/-- bar_of(word), any word -/
def sp_bar_of (K : PySem.W.Frag) (cs : Nat → Addr) : Sp := fun vs H Q E => ∃ x : Str, vs = [.str x] ∧ (TL.tl x).length ≤ 1000 ∧ (∀ d, barOf (TL.tl x) = some d → ∀ H' p, Same H H' → H p = none → H' p = some (.lst (d.map V.int)) → Q (.ref p) H') ∧ (barOf (TL.tl x) = none → ∀ H', Same H H' → E (.ref (cs 3)) none H')
theorem ok_bar_of {f : Addr} {fd : FuncData} (F : Fun K "bar_of" "bar_of" s_bar_of f fd) {t1 : Tok} (g_FIGURES : mg "FIGURES" = some (.str (PySem.Str.ofString "12345") t1)) (C_is_bar : Cal P w K mg base CX0 1 "is_bar" ["bar"] (sp_is_bar K)) {cs : Nat → Addr} {cB : Addr} (T_kinds : Kinds K mg cs cB) :
    FnOk P w K mg base (L2N.CX P w) 2 f fd ["word"] (sp_bar_of K cs) := by
  refine okN F sc_bar_of (fun vs H Q E h => ?_) (fun cdv A outer s H vs Q E hr h => ?_)
  · obtain ⟨x, rfl, _⟩ := h
    rfl
  · obtain ⟨x, rfl, lx, q, qe⟩ := h
    refine ⟨_, (pss_cons (ps_for PassesOwn.leaving rfl (pi_str (pv 0)) (pg_name (i := 1) sc_bar_of.nd rfl (.inl rfl))
        (pss_one (ps_if (pt_cmpR op_notIn_sign (pv 1) (pe_glob (v := .str (PySem.Str.ofString "12345")) (by rfl) g_FIGURES ⟨_, rfl⟩) (by rfl))
          (pss_one (ps_own rfl T_kinds.o3 (L2N.takes_of rfl rfl rfl rfl)))
          pss_nil)))
      (pss_cons (ps_setLc (i := 2) (own := [("sign", 1)]) (g := gName 1) (tt := tYes) rfl sc_bar_of.nd rfl rfl (sw_true rfl rfl rfl (by decide +kernel)) (pi_str (pv 0)) (blkOk_by (N := N_bar_of) (sc := defScope s_bar_of) (by decide +kernel)) (fun _ _ _ _ _ => (pg_name (i := 1) sc_bar_of.nd rfl (.inl rfl))) (fun _ _ _ _ _ => pts_nil) (fun _ _ _ _ _ => (pe_op op_add pe_int (pe_bmK (K := K) PySem.F.plainAttrs_str PySem.F.slot_str_index PySem.F.type_str_index mt_sindex (pe_glob (v := .str (PySem.Str.ofString "12345")) (by rfl) g_FIGURES ⟨_, rfl⟩) (pa_cons (pv 1) pa_nil)))))
      (pss_cons (ps_if (pt_not (pt_val (pe_c C_is_bar hr (by decide) pass0 (pa_cons (pv 2) pa_nil))))
        (pss_one (ps_own rfl T_kinds.o3 (L2N.takes_of rfl rfl rfl rfl)))
        pss_nil)
      (pss_one (ps_ret (pv 2)))))), ?_⟩
    refine ⟨_, rfl, _, rfl, for_str (fun i σ H' => ∃ y : Option V, σ = [some (.str x), y, none] ∧ H' = H ∧ ∀ c ∈ (TL.tl x).take i, isFig c) ⟨none, rfl, rfl, by simp⟩ ?_ ?_⟩
    · rintro i c σ H1 hc ⟨y, rfl, rfl, all⟩
      refine ⟨_, rfl, _, _, rfl, rfl, _, rfl, n2_ (fun h => qe (barOf_bad (List.mem_of_getElem? hc) fun z => h (fig_mem.mpr z)) _ (Same.refl _)) (fun h => ⟨_, rfl, rfl, fun c' hc' => ?_⟩)⟩
      rw [take_more hc] at hc'
      rcases List.mem_append.mp hc' with z | z
      · exact all c' z
      · rw [List.mem_singleton.mp z]
        exact fig_mem.mp h
    · rintro σ H1 ⟨y, rfl, rfl, all⟩
      rw [List.take_length] at all
      refine ⟨_, rfl, _, rfl, fun D nD => ?_⟩
      refine lc_str (fun i H' => Same H1 H' ∧ H' D = some (.lst ((digits ((TL.tl x).take i)).map V.int))) ⟨sNew nD, upd_same⟩ ?_ ?_
      · rintro i c H2 hc ⟨s2, hD⟩
        obtain ⟨v, hv, x1, x5, ev⟩ := fig_val (all c (List.mem_of_getElem? hc))
        subst hv
        refine ⟨rfl, yesT ⟨rfl, _, rfl, _, _, _, _, rfl, rfl, (fig_at x1 x5).1, _, _, rfl, rfl, _, hD, ?_, sPut s2 nD, ?_⟩⟩
        · unfold digits
          rw [List.length_map, List.length_map, List.length_take]
          exact small' (by omega)
        · unfold digits
          rw [upd_same, take_more hc, List.map_append, List.map_append]
          show some (HO.lst (_ ++ [V.int (1 + ((v.toNat - 1 : Nat) : Int))])) = some (HO.lst (_ ++ [V.int (((48 + v.toNat : Nat) : Int) - 48)]))
          rw [show 1 + ((v.toNat - 1 : Nat) : Int) = ((48 + v.toNat : Nat) : Int) - 48 by omega]
      · rintro H2 ⟨s2, hD⟩
        rw [List.take_length] at hD
        refine ⟨_, rfl, D, digits (TL.tl x), rfl, SqL.of hD, _, rfl, ?_⟩
        rcases Bool.eq_false_or_eq_true (isBarB (digits (TL.tl x))) with hb | hb
        · rw [hb]
          exact iteF ⟨_, rfl, q _ (barOf_some all hb) H2 D s2 nD hD⟩
        · rw [hb]
          exact iteT (qe (barOf_no hb) H2 s2)
end
abbrev s_read : Stmt := topS 14
abbrev N_read : List Str := ["text", "words", "word"]
theorem sc_read : FnScope N_read ["text"] (defScope s_read) := ⟨rfl, rfl, rfl, by decide +kernel, rfl, by decide +kernel, by decide +kernel⟩
section
variable {P : Program} {w : World} {K : PySem.W.Frag} {mg : Str → Option Value} {base : Heap}
/-- a call, in a comprehension, of a def that may let an error out -/
theorem pe_out {Y : Cx} {k j : Nat} {x : Str} {ps : List Str} {sp : Sp} {e : Expr} {es : List Expr} {t : TA} {p pos : Pos} {xe : Value → Shared → Prop} {Ex : XK} (C : Cal Y.prog Y.w Y.K Y.mg Y.base (L2N.CX Y.prog Y.w) k x ps sp) (hr : Room j Y.A) (hj : k ≤ j)
    (hx : ∀ pins' σ' H2 s2 u s', Inv Y pins' σ' H2 s2 → L2N.CX Y.prog Y.w Y.stack H2 s2 Ex u s' → xe u s') (ha : PA (Y.wish xe) (e :: es) t)
    (hg : Gl (Y.wish xe) x := by rfl) (hdb : (x == ("__debug__" : Str)) = false := by decide) (he : starEach (e :: es) Y.env = (false, eval e Y.env) :: starEach es Y.env := by rfl) (hpl : (backTo pos (starEach es Y.env)).any (·.1) = false := by rfl) :
    PE (Y.wish xe) (.Call (.Name x p) (e :: es) [] pos) (tCallS sp (fun _ => Ex) t) := by
  obtain ⟨f, fd, F, gm, kp, bd⟩ := C.ex
  exact pe_callS (X := Y.wish xe) (CX := L2N.CX Y.prog Y.w) F (hr.mono hj) hg gm kp bd (fun σ pins H s u s' I c => hx pins σ H s u s' I.unwish c) ha hdb he hpl
/-- read(text), any text: a new table, or an error -/
def sp_read (K : PySem.W.Frag) (cs : Nat → Addr) : Sp := fun vs H Q E => ∃ x : Str, vs = [.str x] ∧ x.length ≤ 900 ∧ (∀ ds, noteOf x = some ds → ∀ H' p ys, Same H H' → H p = none → H' p = some (.lst ys) → LL H' ys ds → Q (.ref p) H') ∧ (noteOf x = none → ∀ H', Same H H' → E (.ref (cs 3)) none H')
theorem ok_read {f : Addr} {fd : FuncData} (F : Fun K "read" "read" s_read f fd) (m_len : mg "len" = none) {t1 : Tok} (g_MOST : mg "MOST" = some (.int 3 t1)) {cs : Nat → Addr} {cB : Addr} (T_kinds : Kinds K mg cs cB) (C_bar_of : Cal P w K mg base (L2N.CX P w) 2 "bar_of" ["word"] (sp_bar_of K cs)) :
    FnOk P w K mg base (L2N.CX P w) 3 f fd ["text"] (sp_read K cs) := by
  refine okN F sc_read (fun vs H Q E h => ?_) (fun cdv A outer s H vs Q E hr h => ?_)
  · obtain ⟨x, rfl, _⟩ := h
    rfl
  · obtain ⟨x, rfl, lx, q, qe⟩ := h
    refine ⟨_, (pss_cons (ps_if (pt_cmpR op_eq (pv 0) pe_str (nomark _))
        (pss_one (ps_ret (pe_lst pa_nil)))
        pss_nil)
      (pss_cons (ps_set (i := 1) sc_read.nd rfl (.inl rfl) (pe_split (pv 0) pe_str))
      (pss_cons (ps_if (pt_cmpR op_gt (pe_callB (lenK (K := K)) (by rfl) m_len PySem.boot_len (pa_cons (pv 1) pa_nil)) (pe_glob (v := .int 3) (by rfl) g_MOST ⟨_, rfl⟩) (nomark _))
        (pss_one (ps_own rfl T_kinds.o3 (L2N.takes_of rfl rfl rfl rfl)))
        pss_nil)
      (pss_one (ps_ret (pe_lcN (own := [("word", 2)]) (g := gName 2) (te := fun Ex => tCallS (sp_bar_of K cs) (fun _ => Ex) (tCons (tVar 2) tNil)) rfl rfl rfl sc_read.nd (L2N.takes_of rfl rfl rfl rfl) (pi_listK (K := K) (pv 1)) (blkOk_by (N := N_read) (sc := defScope s_read) (by decide +kernel)) (fun _ _ _ _ _ => (pg_name (i := 2) sc_read.nd rfl (.inl rfl))) (fun s0 H0 C0 cl0 fp0 xe Ex hx => pe_out C_bar_of hr (by decide) hx (pa_cons (pv 2) pa_nil)))))))), ?_⟩
    refine ⟨_, rfl, rfl, _, rfl, d2_ (fun h => ?_) (fun h => ?_)⟩
    · have h := V.str.inj h
      subst h
      exact ⟨Nat.zero_le _, fun p np => q [] noteOf_nil _ p [] (sNew np) np upd_same Paired.nil⟩
    have hne : x ≠ Str.ofString "" := fun z => h (congrArg V.str z)
    obtain ⟨wl, wn⟩ := split_len x
    refine ⟨_, rfl, ⟨_, rfl⟩, _, _, rfl, rfl, by decide +kernel, small (by omega), fun L nL => ?_⟩
    have s1 : Same H (upd H L (.lst ((Txt.split x (Str.ofString " ")).map V.str))) := sNew nL
    have hL : upd H L (.lst ((Txt.split x (Str.ofString " ")).map V.str)) L = some (.lst ((Txt.split x blank).map V.str)) := upd_same
    generalize upd H L (.lst ((Txt.split x (Str.ofString " ")).map V.str)) = H1 at s1 hL ⊢
    have hlen : ((Txt.split x blank).map V.str).length = (Txt.split x blank).length := List.length_map _
    refine ⟨_, rfl, L, _, rfl, .inl (SqL.of hL), _, _, rfl, rfl, _, rfl, d2_ (fun h3 => qe (noteOf_many hne (by omega)) H1 s1) (fun h3 => ?_)⟩
    have few : noteOf x = barsOf (Txt.split x blank) := noteOf_few hne (by omega)
    refine ⟨_, rfl, L, rfl, ⟨_, SqL.of hL⟩, fun D nD => ?_⟩
    refine lc_list (K := K) (a := L) (xs := (Txt.split x blank).map V.str) (fun i H' => ∃ (ys : List V) (ds : List (List Int)), Same H1 H' ∧ H' D = some (.lst ys) ∧ LL H' ys ds ∧ barsOf ((Txt.split x blank).take i) = some ds ∧ ds.length = i ∧ V.ref D ∉ ys)
      ⟨[], [], sNew nD, upd_same, Paired.nil, rfl, rfl, by simp⟩ (fun _ _ _ ⟨_, _, s, _⟩ => SqL.of (s _ _ hL)) ?_ ?_
    · rintro i v H2 hi ⟨ys, ds, s2, hD, ly, hb, el, nm⟩
      rw [List.getElem?_map] at hi
      cases he : (Txt.split x blank)[i]? with
      | none => rw [he] at hi; cases hi
      | some y =>
        rw [he] at hi
        obtain rfl := Option.some.inj hi
        have ly2 := wl y (List.mem_of_getElem? he)
        have hil : i < (Txt.split x blank).length := (List.getElem?_eq_some_iff.mp he).1
        refine ⟨rfl, yesT ⟨_, rfl, y, rfl, by omega, fun d hd H3 b s3 nb hb3 => ?_, fun hn H3 s3 => qe (by rw [few]; exact barsOf_none he hn) H3 (s1.trans (s2.trans s3))⟩⟩
        have Db : D ≠ b := ne_of_none hD nb
        refine ⟨ys, s3 _ _ hD, ?_, ys ++ [.ref b], ds ++ [d], sPut (s2.trans s3) nD, upd_same, ?_, ?_, by rw [List.length_append, el]; rfl, fun z => ?_⟩
        · rw [ly.length, el]
          exact small' (by omega)
        · refine LL.snoc (LL.keepM ly fun c cs hm e => ?_) (by rw [upd_ne Db.symm]; exact hb3)
          have h1 : c ≠ D := fun z => nm (by rw [← z]; exact hm)
          rw [upd_ne h1]
          exact s3 _ _ e
        · rw [take_more he]
          exact barsOf_snoc hd hb
        · rcases List.mem_append.mp z with h | h
          · exact nm h
          · exact Db (V.ref.inj (List.mem_singleton.mp h))
    · rintro H2 ⟨ys, ds, s2, hD, ly, hb, el, nm⟩
      rw [hlen, List.take_length] at hb
      exact q ds (few.trans hb) H2 D ys (s1.trans s2) (s1.free nD) hD ly
end
abbrev s_law_cell_at : Stmt := topS 16
abbrev N_law_cell_at : List Str := ["script", "k"]
theorem sc_law_cell_at : FnScope N_law_cell_at ["script", "k"] (defScope s_law_cell_at) := ⟨rfl, rfl, rfl, by decide +kernel, rfl, by decide +kernel, by decide +kernel⟩
section
variable {P : Program} {w : World} {K : PySem.W.Frag} {mg : Str → Option Value} {base : Heap}
/-- _law_cell_at(script, k) -/
def cellAt (ns : List Int) (k : Nat) : Int := ns.getD k 0
def sp_law_cell_at (K : PySem.W.Frag) : Sp := fun vs H Q _ => ∃ (a : Addr) (ns : List Int) (k : Nat), vs = [.ref a, .int k] ∧ SqL K H a (ns.map V.int) ∧ Q (.int (cellAt ns k)) H
theorem ok_law_cell_at {f : Addr} {fd : FuncData} (F : Fun K "_law_cell_at" "_law_cell_at" s_law_cell_at f fd) (m_len : mg "len" = none) : FnOk P w K mg base CX0 1 f fd ["script", "k"] (sp_law_cell_at K) := by
  refine F.ok sc_law_cell_at (fun vs H Q E h => ?_) (fun cdv A outer s H vs Q E hr h => ?_)
  · obtain ⟨a, ns, k, rfl, _⟩ := h
    rfl
  · obtain ⟨a, ns, k, rfl, hS, q⟩ := h
    have hl : (ns.map V.int).length = ns.length := List.length_map _
    refine ⟨_, (pss_cons (ps_if (pt_cmpR op_lt (pv 1) (pe_callB (lenK (K := K)) (by rfl) m_len PySem.boot_len (pa_cons (pv 0) pa_nil)) (nomark _))
        (pss_one (ps_ret (pe_ix (ixK (K := K)) (pv 0) (pv 1) (fun _ _ => rfl))))
        pss_nil)
      (pss_one (ps_ret pe_int))), ?_⟩
    refine ⟨_, rfl, _, rfl, a, _, rfl, .inl hS, _, _, rfl, rfl, _, rfl, ite2 (fun c => ?_) (fun c => ?_)⟩
    · have c' := of_decide_eq_true c
      rw [hl] at c'
      have hk : k < ns.length := by omega
      have e : cellAt ns k = ns[k] := by
        unfold cellAt
        rw [List.getD_eq_getElem?_getD, List.getElem?_eq_getElem hk]; rfl
      rw [e] at q
      exact ⟨_, rfl, _, rfl, a, _, _, _, rfl, rfl, hS, at_map (List.getElem?_eq_getElem hk), q⟩
    · have c' := of_decide_eq_false (Bool.eq_false_iff.mpr c)
      rw [hl] at c'
      have e : cellAt ns k = 0 := by
        unfold cellAt
        rw [List.getD_eq_getElem?_getD, List.getElem?_eq_none (by omega)]; rfl
      rw [e] at q
      exact q
end
abbrev s_law_word_of : Stmt := topS 17
abbrev N_law_word_of : List Str := ["e", "kinds"]
theorem sc_law_word_of : FnScope N_law_word_of ["e"] (defScope s_law_word_of) := ⟨rfl, rfl, rfl, by decide +kernel, rfl, by decide +kernel, by decide +kernel⟩
section
variable {P : Program} {w : World} {K : PySem.W.Frag} {mg : Str → Option Value} {base : Heap}
theorem ansL_at (i : Nat) (h : i < 4) : ((ansL i).map V.bl)[i]? = some (V.bl true) ∧ ((ansL i).map V.bl).all flatV = true ∧ ∀ (m : Nat) (z : V), m < i → ((ansL i).map V.bl)[m]? = some z → eqV z (.bl true) = false := by
  have go : ∀ b : Bool, b = false → eqV (V.bl b) (.bl true) = false := fun b e => by subst e; rfl
  refine ⟨?_, by rfl, ?_⟩
  · match i, h with
    | 0, _ => rfl
    | 1, _ => rfl
    | 2, _ => rfl
    | 3, _ => rfl
  · intro m z hm e
    match i, h, m, hm with
    | 1, _, 0, _ => cases e; rfl
    | 2, _, 0, _ => cases e; rfl
    | 2, _, 1, _ => cases e; rfl
    | 3, _, 0, _ => cases e; rfl
    | 3, _, 1, _ => cases e; rfl
    | 3, _, 2, _ => cases e; rfl
theorem ok_law_word_of {f : Addr} {fd : FuncData} (F : Fun K "_law_word_of" "_law_word_of" s_law_word_of f fd) (m_isinstance : mg "isinstance" = none) (m_ValueError : mg "ValueError" = none) {cs : Nat → Addr} {cB : Addr} (T_kinds : Kinds K mg cs cB) :
    FnE P w K mg base 1 f fd ["e"] (sp_law_word_of K cs) := by
  refine okE F sc_law_word_of (fun p vs H Q E h => ?_) (fun cdv A outer s H vs Q E p hot hr h => ?_)
  · obtain ⟨D, i, wd, rfl, _⟩ := h
    rfl
  · obtain ⟨D, i, wd, rfl, hc, hd, kd, i4, hw, q⟩ := h
    have hf : ∃ vs, p.2.data = .fields vs := by
      obtain ⟨_, v, e, _⟩ := hot
      exact ⟨v, e⟩
    refine ⟨_, (pss_cons (ps_set (i := 1) sc_law_word_of.nd rfl (.inl rfl) (pe_lst (pa_cons (pe_callB (call_isP (K := K) kd.ex (.head _) hc hd hf) (by rfl) m_isinstance (by decide +kernel) (pa_cons (pv 0) (pa_cons (pe_glob (v := .ref (cs 0)) (by rfl) T_kinds.o0.g rfl) pa_nil))) (pa_cons (pe_callB (call_isP (K := K) kd.ex (.head _) hc hd hf) (by rfl) m_isinstance (by decide +kernel) (pa_cons (pv 0) (pa_cons (pe_glob (v := .ref (cs 1)) (by rfl) T_kinds.o1.g rfl) pa_nil))) (pa_cons (pe_callB (call_isP (K := K) kd.ex (.head _) hc hd hf) (by rfl) m_isinstance (by decide +kernel) (pa_cons (pv 0) (pa_cons (pe_glob (v := .ref (cs 2)) (by rfl) T_kinds.o2.g rfl) pa_nil))) (pa_cons (pe_callB (call_isP (K := K) kd.ex (.head _) hc hd hf) (by rfl) m_isinstance (by decide +kernel) (pa_cons (pv 0) (pa_cons (pe_glob (v := .ref (cs 3)) (by rfl) T_kinds.o3.g rfl) pa_nil))) pa_nil))))))
      (pss_cons (ps_if (PW.pt (pw_or (pt_cmpR op_ne (pe_bmK (K := K) PySem.F.plainAttrs_list PySem.F.slot_list_count PySem.F.type_list_count mt_bcount (pv 1) (pa_cons pe_bl pa_nil)) pe_int (nomark _)) (pw_or1 (pt_not (pt_val (pe_callB (call_isP (K := K) kd.ex (.head _) hc hd hf) (by rfl) m_isinstance (by decide +kernel) (pa_cons (pv 0) (pa_cons (pe_bltn (v := .ty "ValueError") (by rfl) m_ValueError (by decide +kernel) rfl) pa_nil))))))))
        (pss_one (ps_ret pe_str))
        pss_nil)
      (pss_one (ps_ret (pe_ix (ixK (K := K)) (pe_lst (pa_cons pe_str (pa_cons pe_str (pa_cons pe_str (pa_cons pe_str pa_nil))))) (pe_bmK (K := K) PySem.F.plainAttrs_list PySem.F.slot_list_index PySem.F.type_list_index indexK (pv 1) (pa_cons pe_bl pa_nil)) (fun _ _ => rfl)))))), ?_⟩
    refine ⟨_, rfl, _, _, _, rfl, (fun _ r => r), kd.k 0 (by decide), ?_⟩
    refine ⟨_, rfl, _, _, _, rfl, (fun _ r => r), kd.k 1 (by decide), ?_⟩
    refine ⟨_, rfl, _, _, _, rfl, (fun _ r => r), kd.k 2 (by decide), ?_⟩
    refine ⟨_, rfl, _, _, _, rfl, (fun _ r => r), kd.k 3 (by decide), ?_⟩
    refine ⟨by show 4 ≤ sizeLine; decide, fun l nl => ?_⟩
    have s1 : Same H (upd H l (.lst [V.bl (decide (i = 0)), V.bl (decide (i = 1)), V.bl (decide (i = 2)), V.bl (decide (i = 3))])) := sNew nl
    have hl : upd H l (.lst [V.bl (decide (i = 0)), V.bl (decide (i = 1)), V.bl (decide (i = 2)), V.bl (decide (i = 3))]) l = some (.lst ((ansL i).map V.bl)) := upd_same
    refine ⟨_, rfl, ?_⟩
    generalize upd H l (.lst [V.bl (decide (i = 0)), V.bl (decide (i = 1)), V.bl (decide (i = 2)), V.bl (decide (i = 3))]) = H1 at s1 hl ⊢
    have e1 : ((ansL i).countP (· == true) : Nat) = 1 := by
      match i, i4 with
      | 0, _ => rfl
      | 1, _ => rfl
      | 2, _ => rfl
      | 3, _ => rfl
    refine ⟨.inl ⟨rfl, _, SqL.of hl⟩, l, ansL i, true, rfl, rfl, SqL.of hl, ?_⟩
    rw [e1]
    refine ⟨rfl, _, rfl, ?_⟩
    rw [show (((1 : Nat) : Int)) = 1 from rfl, decide_eq_true rfl]
    refine iteF ?_
    refine ⟨_, rfl, _, _, _, rfl, (fun _ r => r), kd.v, true, rfl, iteF ?_⟩
    refine ⟨by show 4 ≤ sizeLine; decide, fun g ng => ?_⟩
    have s2 : Same H1 (upd H1 g (.lst (words.map V.str))) := sNew ng
    have hg : upd H1 g (.lst (words.map V.str)) g = some (.lst (words.map V.str)) := upd_same
    obtain ⟨w1, w2, w3⟩ := ansL_at i i4
    refine ⟨_, rfl, .inl ⟨rfl, _, SqL.of (s2 _ _ hl)⟩, ?_⟩
    refine ⟨l, _, .bl true, i, .bl true, rfl, rfl, SqL.of (s2 _ _ hl), rfl, w2, w1, rfl, w3, ?_⟩
    refine ⟨g, _, _, _, rfl, rfl, SqL.of hg, atI_nat (by rw [List.getElem?_map, hw]; rfl), ?_⟩
    exact q _ (s1.trans s2)
end
abbrev s_law_bar_by : Stmt := topS 18
abbrev N_law_bar_by : List Str := ["cell", "most", "many", "found", "k"]
theorem sc_law_bar_by : FnScope N_law_bar_by ["cell", "most"] (defScope s_law_bar_by) := ⟨rfl, rfl, rfl, by decide +kernel, rfl, by decide +kernel, by decide +kernel⟩
section
variable {P : Program} {w : World} {K : PySem.W.Frag} {mg : Str → Option Value} {base : Heap}
/-- _law_bar_by(cell, most): a bar -/
def sp_law_bar_by (K : PySem.W.Frag) : Sp := fun vs H Q _ => ∃ (c m : Int), vs = [.int c, .int m] ∧ 1 ≤ m ∧ m ≤ 5 ∧
  ∀ H' p ns, Same H H' → H p = none → H' p = some (.lst (ns.map V.int)) → IsBar m ns → Q (.ref p) H'
theorem ok_law_bar_by {f : Addr} {fd : FuncData} (F : Fun K "_law_bar_by" "_law_bar_by" s_law_bar_by f fd) (m_range : mg "range" = none) (m_sorted : mg "sorted" = none) : FnOk P w K mg base CX0 1 f fd ["cell", "most"] (sp_law_bar_by K) := by
  refine F.ok sc_law_bar_by (fun vs H Q E h => ?_) (fun cdv A outer s H vs Q E hr h => ?_)
  · obtain ⟨c, m, rfl, _⟩ := h
    rfl
  · obtain ⟨c, m, rfl, h1, h5, q⟩ := h
    have hm0 := Int.emod_nonneg c (show m ≠ 0 by omega)
    have hm1 := Int.emod_lt_of_pos c (show 0 < m by omega)
    refine ⟨_, (pss_cons (ps_set (i := 2) sc_law_bar_by.nd rfl (.inl rfl) (pe_op op_add pe_int (pe_op op_mod (pv 0) (pv 1))))
      (pss_cons (ps_set (i := 0) sc_law_bar_by.nd rfl (.inl rfl) (pe_op op_fdiv (pv 0) (pv 1)))
      (pss_cons (ps_set (i := 3) sc_law_bar_by.nd rfl (.inl rfl) (pe_lst pa_nil))
      (pss_cons (ps_for PassesOwn.never rfl (pi_range1 (by rfl) m_range (pa_cons (pv 2) pa_nil)) (pg_name (i := 4) sc_law_bar_by.nd rfl (.inl rfl))
        (pss_cons (ps_expr (pe_bmK (K := K) PySem.F.plainAttrs_list PySem.F.slot_list_append PySem.F.type_list_append mt_append (pv 3) (pa_cons (pe_op op_add pe_int (pe_op op_mod (pv 0) (pv 1))) pa_nil)))
        (pss_one (ps_set (i := 0) sc_law_bar_by.nd rfl (.inl rfl) (pe_op op_fdiv (pv 0) (pv 1))))))
      (pss_one (ps_ret (pe_callBK (sortedRevK (K := K)) (by rfl) m_sorted (by decide +kernel) (pa_cons (pv 3) pa_nil) (pk_cons pe_bl pk_nil)))))))), ?_⟩
    refine ⟨_, rfl, _, rfl, _, _, rfl, rfl, (by show 0 < m; omega), _, _, rfl, rfl, ?_⟩
    refine ⟨_, rfl, _, rfl, _, _, rfl, rfl, ⟨by omega, by omega⟩, Nat.zero_le _, fun o no => ?_⟩
    refine ⟨_, rfl, _, rfl, by omega, by omega,
      for_range (lo := 0) (fun i σ H' => ∃ (c' : Int) (y : Option V) (ds : List Int), σ = [some (.int c'), some (.int m), some (.int (1 + c % m)), some (.ref o), y] ∧ H' = upd H o (.lst (ds.map V.int)) ∧ ds.length = i ∧ ∀ x ∈ ds, 1 ≤ x ∧ x ≤ m)
      ⟨_, none, [], rfl, rfl, rfl, fun x hx => nomatch hx⟩ ?_ ?_⟩
    · rintro i σ H1 hi ⟨c', y, ds, rfl, rfl, el, hx⟩
      have hc0 := Int.emod_nonneg c' (show m ≠ 0 by omega)
      have hc1 := Int.emod_lt_of_pos c' (show 0 < m by omega)
      refine ⟨_, rfl, .inl ⟨rfl, _, SqL.of upd_same⟩, ?_⟩
      refine ⟨_, rfl, _, rfl, _, _, rfl, rfl, (by show 0 < m; omega), _, _, rfl, rfl, o, _, _, rfl, rfl, upd_same, by rw [List.length_map]; exact small' (by omega), ?_⟩
      refine ⟨_, rfl, _, rfl, _, _, rfl, rfl, ⟨by omega, by omega⟩, ?_⟩
      refine ⟨_, _, ds ++ [1 + c' % m], rfl, ?_, by rw [List.length_append, el]; rfl, fun x h => ?_⟩
      · rw [upd_upd, List.map_append]; rfl
      · rcases List.mem_append.mp h with h | h
        · exact hx x h
        · have := List.mem_singleton.mp h
          omega
    · rintro σ H1 ⟨c', y, ds, rfl, rfl, el, hx⟩
      refine ⟨_, rfl, o, ds, rfl, rfl, SqL.of upd_same, fun ns p hp ho np => ?_⟩
      have hlen := hp.length_eq
      refine q _ p ns (sThen (sNew no) np) ?_ upd_same ⟨by omega, by omega, ho, fun x h => hx x (hp.mem_iff.mp h)⟩
      cases e : H p with
      | none => rfl
      | some u =>
        have := sNew (o := .lst (ds.map V.int)) no p u e
        rw [np] at this
        cases this
end
abbrev s_law_table_by : Stmt := topS 19
abbrev N_law_table_by : List Str := ["script", "at", "most", "k"]
theorem sc_law_table_by : FnScope N_law_table_by ["script", "at", "most"] (defScope s_law_table_by) := ⟨rfl, rfl, rfl, by decide +kernel, rfl, by decide +kernel, by decide +kernel⟩
section
variable {P : Program} {w : World} {K : PySem.W.Frag} {mg : Str → Option Value} {base : Heap}
/-- _law_table_by(script, at, most): a new table -/
def sp_law_table_by (K : PySem.W.Frag) : Sp := fun vs H Q _ => ∃ (a : Addr) (ns : List Int) (k : Nat) (m : Int), vs = [.ref a, .int (k : Nat), .int m] ∧ SqL K H a (ns.map V.int) ∧ 1 ≤ m ∧ m ≤ 5 ∧
  ∀ H' T xs ds, Same H H' → H T = none → H' T = some (.lst xs) → LL H' xs ds → IsTable ds → Q (.ref T) H'
theorem ok_law_table_by {f : Addr} {fd : FuncData} (F : Fun K "_law_table_by" "_law_table_by" s_law_table_by f fd) (m_range : mg "range" = none) (C_law_cell_at : Cal P w K mg base CX0 1 "_law_cell_at" ["script", "k"] (sp_law_cell_at K)) (C_law_bar_by : Cal P w K mg base CX0 1 "_law_bar_by" ["cell", "most"] (sp_law_bar_by K)) :
    FnOk P w K mg base CX0 2 f fd ["script", "at", "most"] (sp_law_table_by K) := by
  refine F.ok sc_law_table_by (fun vs H Q E h => ?_) (fun cdv A outer s H vs Q E hr h => ?_)
  · obtain ⟨a, ns, k, m, rfl, _⟩ := h
    rfl
  · obtain ⟨a, ns, k, m, rfl, hS, m1, m5, q⟩ := h
    have h0 := Int.emod_nonneg (cellAt ns k) (show (4 : Int) ≠ 0 by decide)
    have h1 := Int.emod_lt_of_pos (cellAt ns k) (show (0 : Int) < 4 by decide)
    refine ⟨_, (pss_one (ps_ret (pe_lc (own := [("k", 3)]) (g := gName 3) (tt := tYes) rfl sc_law_table_by.nd (pi_range1 (by rfl) m_range (pa_cons (pe_op op_mod (pe_c C_law_cell_at hr (by decide) pass0 (pa_cons (pv 0) (pa_cons (pv 1) pa_nil))) pe_int) pa_nil)) (blkOk_by (N := N_law_table_by) (sc := defScope s_law_table_by) (by decide +kernel)) (fun _ _ _ _ _ => (pg_name (i := 3) sc_law_table_by.nd rfl (.inl rfl))) (fun _ _ _ _ _ => pts_nil) (fun _ _ _ _ _ => (pe_c C_law_bar_by hr (by decide) pass0 (pa_cons (pe_c C_law_cell_at hr (by decide) pass0 (pa_cons (pv 0) (pa_cons (pe_op op_add (pe_op op_add (pv 1) pe_int) (pv 3)) pa_nil))) (pa_cons (pv 2) pa_nil))))))), ?_⟩
    refine ⟨_, rfl, _, rfl, a, ns, k, rfl, hS, _, _, rfl, rfl, (by show (0 : Int) < 4; decide), _, rfl, by omega, by omega, fun D nD => ?_⟩
    refine lc_range (lo := 0) (n := (cellAt ns k % 4).toNat) (fun i H' => ∃ (ys : List V) (ds : List (List Int)), Same H H' ∧ H' D = some (.lst ys) ∧ LL H' ys ds ∧ (∀ d ∈ ds, IsBar 5 d) ∧ ds.length = i ∧ V.ref D ∉ ys)
      ⟨[], [], sNew nD, upd_same, Paired.nil, fun x hx => (nomatch hx), rfl, by simp⟩ ?_ ?_
    · rintro i H1 hi ⟨ys, ds, s1, hD, ly, ib, el, nm⟩
      refine ⟨rfl, yesT ?_⟩
      refine ⟨_, rfl, _, rfl, _, _, rfl, rfl, _, rfl, _, _, rfl, rfl, a, ns, k + 1 + i, ?_, s1.seq hS, ?_⟩
      · show [V.ref a, V.int ((k : Int) + 1 + (0 + (i : Int)))] = [V.ref a, V.int ((k + 1 + i : Nat) : Int)]
        rw [show (k : Int) + 1 + (0 + (i : Int)) = ((k + 1 + i : Nat) : Int) by omega]
      refine ⟨_, rfl, _, m, rfl, m1, m5, fun H2 b bs s2 nb hb ib2 => ?_⟩
      have Db : D ≠ b := ne_of_none hD nb
      have hyl : ys.length = i := by rw [ly.length, el]
      refine ⟨ys, s2 _ _ hD, small' (by omega), ys ++ [.ref b], ds ++ [bs], sPut (s1.trans s2) nD, upd_same, ?_, ?_, by rw [List.length_append, el]; rfl, fun z => ?_⟩
      · refine LL.snoc (LL.keepM ly fun c cs hm e => ?_) (by rw [upd_ne Db.symm]; exact hb)
        have h1 : c ≠ D := fun z => nm (by rw [← z]; exact hm)
        rw [upd_ne h1]
        exact s2 _ _ e
      · intro d hd
        rcases List.mem_append.mp hd with h | h
        · exact ib d h
        · rw [List.mem_singleton.mp h]
          exact ib2.mono m5
      · rcases List.mem_append.mp z with h | h
        · exact nm h
        · exact Db (V.ref.inj (List.mem_singleton.mp h))
    · rintro H1 ⟨ys, ds, s1, hD, ly, ib, el, nm⟩
      exact q H1 D ys ds s1 nD hD ly ⟨by omega, ib⟩
end
abbrev s_law_spoilt : Stmt := topS 20
abbrev N_law_spoilt : List Str := ["words", "kind", "cell", "text", "place", "sign", "k"]
theorem sc_law_spoilt : FnScope N_law_spoilt ["words", "kind", "cell"] (defScope s_law_spoilt) := ⟨rfl, rfl, rfl, by decide +kernel, rfl, by decide +kernel, by decide +kernel⟩
section
variable {P : Program} {w : World} {K : PySem.W.Frag} {mg : Str → Option Value} {base : Heap}
def eight : List Str := ["", " ", "\t", "\n", "  ", "111111", "12", "55555 54321 1"]
theorem eight_len : ∀ x ∈ eight, x.length ≤ 900 := by decide +kernel
/-- _law_spoilt(words, kind, cell): some text -/
def sp_law_spoilt (K : PySem.W.Frag) : Sp := fun vs H Q _ => ∃ (L : Addr) (ws : List Str) (k c : Int), vs = [.ref L, .int k, .int c] ∧ H L = some (.lst (ws.map V.str)) ∧ ws.length ≤ 3 ∧ (∀ x ∈ ws, x.length ≤ 5) ∧ 0 ≤ c ∧ ∀ H' x, Same H H' → x.length ≤ 900 → Q (.str x) H'
theorem ok_law_spoilt {f : Addr} {fd : FuncData} (F : Fun K "_law_spoilt" "_law_spoilt" s_law_spoilt f fd) (m_len : mg "len" = none) (m_range : mg "range" = none) : FnOk P w K mg base CX0 1 f fd ["words", "kind", "cell"] (sp_law_spoilt K) := by
  refine F.ok sc_law_spoilt (fun vs H Q E h => ?_) (fun cdv A outer s H vs Q E hr h => ?_)
  · obtain ⟨L, ws, k, c, rfl, _⟩ := h
    rfl
  · obtain ⟨L, ws, k, c, rfl, hL, l3, l5, c0, q⟩ := h
    have e1 : (Str.ofString " ").length = 1 := by decide +kernel
    have sl := sum_len l5
    have jl : (Txt.join (Str.ofString " ") ws).length ≤ (5 + 1) * ws.length := join_len l5
    refine ⟨_, (pss_cons (ps_set (i := 3) sc_law_spoilt.nd rfl (.inl rfl) (pe_joinK (K := K) pe_str (pv 0)))
      (pss_cons (ps_set (i := 4) sc_law_spoilt.nd rfl (.inl rfl) (pe_op op_mod (pv 2) (pe_op op_add (pe_callB call_len_str (by rfl) m_len PySem.boot_len (pa_cons (pv 3) pa_nil)) pe_int)))
      (pss_cons (ps_set (i := 5) sc_law_spoilt.nd rfl (.inl rfl) (pe_ix ix_str pe_str (pe_op op_mod (pe_op op_fdiv (pv 2) pe_int) pe_int) (fun _ _ => rfl)))
      (pss_cons (ps_if (pt_cmpR op_eq (pv 1) pe_int (nomark _))
        (pss_one (ps_ret (pe_op op_add_str (pe_op op_add_str (pe_slice sl_str (pv 3) po_none (po_some (pv 4))) (pv 5)) (pe_slice sl_str (pv 3) (po_some (pv 4)) po_none))))
        pss_nil)
      (pss_cons (ps_if (pt_cmpR op_eq (pv 1) pe_int (nomark _))
        (pss_one (ps_ret (pe_op op_add_str (pe_slice sl_str (pv 3) po_none (po_some (pv 4))) (pe_slice sl_str (pv 3) (po_some (pe_op op_add (pv 4) pe_int)) po_none))))
        pss_nil)
      (pss_cons (ps_if (pt_cmpR op_eq (pv 1) pe_int (nomark _))
        (pss_one (ps_ret (pe_op op_add_str (pe_op op_add_str (pe_slice sl_str (pv 3) po_none (po_some (pv 4))) (pv 5)) (pe_slice sl_str (pv 3) (po_some (pe_op op_add (pv 4) pe_int)) po_none))))
        pss_nil)
      (pss_cons (ps_if (pt_cmpR op_eq (pv 1) pe_int (nomark _))
        (pss_one (ps_ret (pe_joinK (K := K) pe_str (pe_op op_cat (pv 0) (pe_lc (own := [("k", 6)]) (g := gName 6) (tt := tYes) rfl sc_law_spoilt.nd (pi_range1 (by rfl) m_range (pa_cons (pe_op op_add pe_int (pe_op op_mod (pv 2) pe_int)) pa_nil)) (blkOk_by (N := N_law_spoilt) (sc := defScope s_law_spoilt) (by decide +kernel)) (fun _ _ _ _ _ => (pg_name (i := 6) sc_law_spoilt.nd rfl (.inl rfl))) (fun _ _ _ _ _ => pts_nil) (fun _ _ _ _ _ => pe_str))))))
        pss_nil)
      (pss_cons (ps_if (pt_cmpR op_eq (pv 1) pe_int (nomark _))
        (pss_one (ps_ret (pe_ix (ixK (K := K)) (pe_lst (pa_cons pe_str (pa_cons pe_str (pa_cons pe_str (pa_cons pe_str (pa_cons pe_str (pa_cons pe_str (pa_cons pe_str (pa_cons pe_str pa_nil))))))))) (pe_op op_mod (pv 2) pe_int) (fun _ _ => rfl))))
        pss_nil)
      (pss_one (ps_ret (pv 3))))))))))), ?_⟩
    refine ⟨⟨_, rfl⟩, _, rfl, _, L, ws, rfl, rfl, .inl (SqL.of hL), by rw [e1]; omega, ?_⟩
    generalize Txt.join (Str.ofString " ") ws = x at jl
    have x18 : x.length ≤ 18 := by omega
    refine ⟨_, rfl, _, rfl, x, rfl, small (by omega), _, _, rfl, rfl, _, _, rfl, rfl, by show (0 : Int) < (x.length : Int) + 1; omega, ?_⟩
    obtain ⟨i, ei, hi⟩ : ∃ i : Nat, c / 97 % 18 = (i : Int) ∧ i < 18 := ⟨(c / 97 % 18).toNat, by omega, by omega⟩
    have l18 : (Str.ofString "0123456789 \t\na_+-.").cps.toList.length = 18 := by decide +kernel
    obtain ⟨g, hg⟩ : ∃ g : Nat, atI (Str.ofString "0123456789 \t\na_+-.").cps.toList (c / 97 % 18) = some g := by
      rw [ei]
      exact ⟨_, atI_nat (List.getElem?_eq_getElem (by rw [l18]; exact hi))⟩
    refine ⟨_, rfl, _, _, rfl, rfl, by show (0 : Int) < 97 ∧ (97 : Int) < 1073741824; decide, _, _, rfl, rfl, by show (0 : Int) < 18; decide, _, _, g, rfl, rfl, by decide +kernel, hg, ?_⟩
    have cs : ∀ lo hi, (cutS x lo hi).length ≤ 18 := fun lo hi => Nat.le_trans (cutS_length x lo hi) x18
    have g1 : (⟨#[g]⟩ : Str).length = 1 := rfl
    have xs : x.length ≤ sizeLine := small (by omega)
    refine ⟨_, rfl, rfl, _, rfl, d2_ (fun _ => ?_) (fun _ => ?_)⟩
    · refine ⟨_, rfl, _, rfl, _, rfl, x, rfl, xs, _, rfl, _, _, rfl, rfl, ?_, ?_⟩
      · have := cs none (some (c % ((x.length : Int) + 1)))
        exact small (by rw [g1]; omega)
      refine ⟨_, rfl, _, rfl, _, rfl, x, rfl, xs, _, _, rfl, rfl, ?_, q H _ (Same.refl H) ?_⟩
      · have h1 := cs none (some (c % ((x.length : Int) + 1)))
        have h2 := cs (some (c % ((x.length : Int) + 1))) none
        rw [str_app_len, g1]
        exact small (by omega)
      · have h1 := cs none (some (c % ((x.length : Int) + 1)))
        have h2 := cs (some (c % ((x.length : Int) + 1))) none
        rw [str_app_len, str_app_len, g1]
        omega
    refine ⟨_, rfl, rfl, _, rfl, d2_ (fun _ => ?_) (fun _ => ?_)⟩
    · refine ⟨_, rfl, _, rfl, _, rfl, x, rfl, xs, ?_⟩
      refine ⟨_, rfl, _, rfl, _, _, rfl, rfl, _, rfl, x, rfl, xs, _, _, rfl, rfl, ?_, q H _ (Same.refl H) ?_⟩
      · have h1 := cs none (some (c % ((x.length : Int) + 1)))
        have h2 := cs (some (c % ((x.length : Int) + 1) + 1)) none
        exact small (by omega)
      · have h1 := cs none (some (c % ((x.length : Int) + 1)))
        have h2 := cs (some (c % ((x.length : Int) + 1) + 1)) none
        rw [str_app_len]
        omega
    refine ⟨_, rfl, rfl, _, rfl, d2_ (fun _ => ?_) (fun _ => ?_)⟩
    · refine ⟨_, rfl, _, rfl, _, rfl, x, rfl, xs, _, rfl, _, _, rfl, rfl, ?_, ?_⟩
      · have := cs none (some (c % ((x.length : Int) + 1)))
        exact small (by rw [g1]; omega)
      refine ⟨_, rfl, _, rfl, _, _, rfl, rfl, _, rfl, x, rfl, xs, _, _, rfl, rfl, ?_, q H _ (Same.refl H) ?_⟩
      · have h1 := cs none (some (c % ((x.length : Int) + 1)))
        have h2 := cs (some (c % ((x.length : Int) + 1) + 1)) none
        rw [str_app_len, g1]
        exact small (by omega)
      · have h1 := cs none (some (c % ((x.length : Int) + 1)))
        have h2 := cs (some (c % ((x.length : Int) + 1) + 1)) none
        rw [str_app_len, str_app_len, g1]
        omega
    refine ⟨_, rfl, rfl, _, rfl, d2_ (fun _ => ?_) (fun _ => ?_)⟩
    · refine ⟨⟨_, rfl⟩, _, rfl, _, rfl, _, _, rfl, rfl, by show (0 : Int) < 3; decide, _, _, rfl, rfl, _, rfl, by omega, by omega, fun D nD => ?_⟩
      refine lc_range (lo := 0) (n := (1 + c % 3).toNat) (fun i H' => Same H H' ∧ H' D = some (.lst ((List.replicate i (Str.ofString "21")).map V.str))) ⟨sNew nD, upd_same⟩ ?_ ?_
      · rintro i H1 hi ⟨s1, hD⟩
        refine ⟨rfl, yesT ⟨_, hD, ?_, sPut s1 nD, ?_⟩⟩
        · rw [List.length_map, List.length_replicate]
          exact small' (by omega)
        · rw [upd_same, List.replicate_succ', List.map_append]
          all_goals rfl
      rintro H1 ⟨s1, hD⟩
      refine ⟨L, D, _, _, rfl, rfl, s1 _ _ hL, hD, ?_, fun p np => ?_⟩
      · rw [List.length_map, List.length_map, List.length_replicate]
        exact small (by omega)
      rw [← List.map_append]
      have le5 : ∀ y ∈ ws ++ List.replicate (1 + c % 3).toNat (Str.ofString "21"), y.length ≤ 5 := fun y hy => by
        rcases List.mem_append.mp hy with h | h
        · exact l5 y h
        · rw [List.eq_of_mem_replicate h]
          decide +kernel
      have ll : (ws ++ List.replicate (1 + c % 3).toNat (Str.ofString "21")).length ≤ 6 := by
        rw [List.length_append, List.length_replicate]
        omega
      have h1 := sum_len le5
      have h2 : (Txt.join (Str.ofString " ") (ws ++ List.replicate (1 + c % 3).toNat (Str.ofString "21"))).length ≤ (5 + 1) * (ws ++ List.replicate (1 + c % 3).toNat (Str.ofString "21")).length := join_len le5
      generalize ws ++ List.replicate (1 + c % 3).toNat (Str.ofString "21") = zs at h1 h2 ll ⊢
      exact ⟨_, p, zs, rfl, rfl, .inl (SqL.of upd_same), by rw [e1]; omega, q _ _ (s1.trans (sNew np)) (by omega)⟩
    refine ⟨_, rfl, rfl, _, rfl, d2_ (fun _ => ?_) (fun _ => ⟨_, rfl, q H x (Same.refl H) (by omega)⟩)⟩
    · refine ⟨by show 8 ≤ sizeLine; decide, fun D nD => ?_⟩
      have sD := sNew (o := .lst (eight.map V.str)) nD
      have hD : upd H D (.lst (eight.map V.str)) D = some (.lst (eight.map V.str)) := upd_same
      obtain ⟨n, en, hn⟩ : ∃ n : Nat, c % 8 = (n : Int) ∧ n < 8 := ⟨(c % 8).toNat, by omega, by omega⟩
      have hw := List.getElem?_eq_getElem (l := eight) (i := n) hn
      refine ⟨_, rfl, _, _, rfl, rfl, by show (0 : Int) < 8; decide, D, _, (n : Int), _, rfl, congrArg V.int en, SqL.of hD, atI_nat (by rw [List.getElem?_map, hw]; rfl), q _ _ sD (eight_len _ (List.getElem_mem hn))⟩
end
abbrev s_law_due : Stmt := topS 21
abbrev N_law_due : List Str := ["text", "found", "word", "bar", "sign"]
theorem sc_law_due : FnScope N_law_due ["text"] (defScope s_law_due) := ⟨rfl, rfl, rfl, by decide +kernel, rfl, by decide +kernel, by decide +kernel⟩
section
variable {P : Program} {w : World} {K : PySem.W.Frag} {mg : Str → Option Value} {base : Heap}
/-- _law_due(text), any text: the table that it tells, or None -/
def sp_law_due (K : PySem.W.Frag) : Sp := fun vs H Q _ => ∃ x : Str, vs = [.str x] ∧ x.length ≤ 900 ∧ (∀ ds, noteOf x = some ds → ∀ H' p ys, Same H H' → H p = none → H' p = some (.lst ys) → LL H' ys ds → Q (.ref p) H') ∧ (noteOf x = none → ∀ H', Same H H' → Q .non H')
theorem ok_law_due {f : Addr} {fd : FuncData} (F : Fun K "_law_due" "_law_due" s_law_due f fd) (m_len : mg "len" = none) (m_sorted : mg "sorted" = none) : FnOk P w K mg base CX0 1 f fd ["text"] (sp_law_due K) := by
  refine F.ok sc_law_due (fun vs H Q E h => ?_) (fun cdv A outer s H vs Q E hr h => ?_)
  · obtain ⟨x, rfl, _⟩ := h
    rfl
  · obtain ⟨x, rfl, lx, q, qn⟩ := h
    refine ⟨_, (pss_cons (ps_if (pt_cmpR op_eq (pv 0) pe_str (nomark _))
        (pss_one (ps_ret (pe_lst pa_nil)))
        pss_nil)
      (pss_cons (ps_set (i := 1) sc_law_due.nd rfl (.inl rfl) (pe_lst pa_nil))
      (pss_cons (ps_for PassesOwn.never rfl (pi_listK (K := K) (pe_split (pv 0) pe_str)) (pg_name (i := 2) sc_law_due.nd rfl (.inl rfl))
        (pss_cons (ps_set (i := 3) sc_law_due.nd rfl (.inl rfl) (pe_lst pa_nil))
        (pss_cons (ps_for PassesOwn.never rfl (pi_str (pv 2)) (pg_name (i := 4) sc_law_due.nd rfl (.inl rfl))
          (pss_cons (ps_if (pt_cmpR op_notIn_sign (pv 4) pe_str (by rfl))
            (pss_one (ps_ret pe_non))
            pss_nil)
          (pss_one (ps_expr (pe_bmK (K := K) PySem.F.plainAttrs_list PySem.F.slot_list_append PySem.F.type_list_append mt_append (pv 3) (pa_cons (pe_bmK (K := K) PySem.F.plainAttrs_str PySem.F.slot_str_index PySem.F.type_str_index mt_sindex pe_str (pa_cons (pv 4) pa_nil)) pa_nil))))))
        (pss_cons (ps_if (PW.pt (pw_or (pt_cmpR op_lt (pe_callB (lenK (K := K)) (by rfl) m_len PySem.boot_len (pa_cons (pv 3) pa_nil)) pe_int (nomark _)) (pw_or (pt_cmpR op_gt (pe_callB (lenK (K := K)) (by rfl) m_len PySem.boot_len (pa_cons (pv 3) pa_nil)) pe_int (nomark _)) (pw_or1 (pt_cmpR (neDK (K := K) hr.units) (pv 3) (pe_callBK (sortedRevK (K := K)) (by rfl) m_sorted (by decide +kernel) (pa_cons (pv 3) pa_nil) (pk_cons pe_bl pk_nil)) (nomark _))))))
          (pss_one (ps_ret pe_non))
          pss_nil)
        (pss_one (ps_expr (pe_bmK (K := K) PySem.F.plainAttrs_list PySem.F.slot_list_append PySem.F.type_list_append mt_append (pv 1) (pa_cons (pv 3) pa_nil))))))))
      (pss_cons (ps_if (pt_cmpR op_gt (pe_callB (lenK (K := K)) (by rfl) m_len PySem.boot_len (pa_cons (pv 1) pa_nil)) pe_int (nomark _))
        (pss_one (ps_ret pe_non))
        pss_nil)
      (pss_one (ps_ret (pv 1))))))), ?_⟩
    refine ⟨_, rfl, rfl, _, rfl, d2_ (fun h => ?_) (fun h => ?_)⟩
    · have h := V.str.inj h
      subst h
      exact ⟨Nat.zero_le _, fun p np => q [] noteOf_nil _ p [] (sNew np) np upd_same Paired.nil⟩
    have hne : x ≠ Str.ofString "" := fun z => h (congrArg V.str z)
    obtain ⟨wl, wn⟩ := split_len x
    refine ⟨Nat.zero_le _, fun F nF => ?_⟩
    have s1 : Same H (upd H F (.lst [])) := sNew nF
    have hF1 : upd H F (.lst []) F = some (.lst []) := upd_same
    generalize upd H F (.lst []) = H1 at s1 hF1 ⊢
    refine ⟨_, rfl, ⟨_, rfl⟩, _, _, rfl, rfl, by decide +kernel, small (by omega), fun L nL => ?_⟩
    have s2 : Same H1 (upd H1 L (.lst ((Txt.split x (Str.ofString " ")).map V.str))) := sNew nL
    have hL : upd H1 L (.lst ((Txt.split x (Str.ofString " ")).map V.str)) L = some (.lst ((Txt.split x blank).map V.str)) := upd_same
    generalize upd H1 L (.lst ((Txt.split x (Str.ofString " ")).map V.str)) = H2 at s2 hL ⊢
    have LF : L ≠ F := (ne_of_none hF1 nL).symm
    have hlen : ((Txt.split x blank).map V.str).length = (Txt.split x blank).length := List.length_map _
    refine ⟨L, rfl, ⟨_, SqL.of hL⟩, for_list (K := K) (a := L) (xs := (Txt.split x blank).map V.str) (fun i σ H' => ∃ (v2 v3 v4 : Option V) (ys : List V) (ds : List (List Int)), σ = [some (.str x), some (.ref F), v2, v3, v4] ∧ Same H H' ∧ H' L = some (.lst ((Txt.split x blank).map V.str)) ∧
      H' F = some (.lst ys) ∧ LL H' ys ds ∧ barsOf ((Txt.split x blank).take i) = some ds ∧ ds.length = i ∧ V.ref F ∉ ys)
      ⟨none, none, none, [], [], rfl, s1.trans s2, hL, s2 _ _ hF1, Paired.nil, rfl, rfl, by simp⟩ (fun _ _ _ _ ⟨_, _, _, _, _, _, _, h, _⟩ => SqL.of h) ?_ ?_⟩
    · rintro i v σ H3 hi ⟨v2, v3, v4, ys, ds, rfl, s3, hL3, hF3, ly, hb, el, nm⟩
      rw [List.getElem?_map] at hi
      cases he : (Txt.split x blank)[i]? with
      | none => rw [he] at hi; cases hi
      | some y =>
        rw [he] at hi
        obtain rfl := Option.some.inj hi
        have ly2 := wl y (List.mem_of_getElem? he)
        have hil : i < (Txt.split x blank).length := (List.getElem?_eq_some_iff.mp he).1
        refine ⟨Nat.zero_le _, fun B nB => ?_⟩
        have FB : F ≠ B := ne_of_none hF3 nB
        refine ⟨_, rfl, _, rfl, for_str (fun j σ H' => ∃ v4 : Option V, σ = [some (.str x), some (.ref F), some (.str y), some (.ref B), v4] ∧ Same H3 H' ∧ H' B = some (.lst ((digits ((TL.tl y).take j)).map V.int)) ∧ ∀ c ∈ (TL.tl y).take j, isFig c) ⟨v4, rfl, sNew nB, upd_same, by simp⟩ ?_ ?_⟩
        · rintro j c σ H4 hc ⟨v4, rfl, s4, hB, all⟩
          refine ⟨_, rfl, _, _, rfl, rfl, _, rfl, n2_ (fun h => ?_) (fun h => ?_)⟩
          · exact qn (noteOf_badword hne he (barOf_bad (List.mem_of_getElem? hc) fun z => h (fig_mem.mpr z))) H4 (s3.trans s4)
          have hf := fig_mem.mp h
          have c1 := hf.1
          refine ⟨_, rfl, .inl ⟨rfl, _, SqL.of hB⟩, rfl, _, rfl, _, _, _, _, rfl, rfl, fig0_at hf, B, _, _, rfl, rfl, hB, ?_, ?_⟩
          · unfold digits
            rw [List.length_map, List.length_map, List.length_take]
            exact small' (by omega)
          refine ⟨_, rfl, sPut s4 nB, ?_, fun c' hc' => ?_⟩
          · rw [upd_same, take_more hc]
            unfold digits
            rw [List.map_append, List.map_append]
            show some (HO.lst (_ ++ [V.int ((c - 48 : Nat) : Int)])) = some (HO.lst (_ ++ [V.int ((c : Int) - 48)]))
            rw [show ((c - 48 : Nat) : Int) = (c : Int) - 48 by omega]
          · rw [take_more hc] at hc'
            rcases List.mem_append.mp hc' with z | z
            · exact all c' z
            · rw [List.mem_singleton.mp z]
              exact hf
        · rintro σ H4 ⟨v4, rfl, s4, hB, all⟩
          rw [List.take_length] at hB all
          have rg := digits_rg all
          generalize hd : digits (TL.tl y) = d at hB rg
          have lm := List.length_map (as := d) V.int
          have no : isBarB d = false → noteOf x = none := fun b => noteOf_badword hne he (barOf_no (by rw [hd]; exact b))
          have nil1 : isBarB ([] : List Int) = false := rfl
          refine ⟨_, rfl, B, _, rfl, .inl (SqL.of hB), _, _, rfl, rfl, _, rfl, d2_ (fun h1 => iteT (qn (no ?_) H4 (s3.trans s4))) (fun h1 => ?_)⟩
          · have h1 : (((d.map V.int).length : Nat) : Int) < 1 := h1
            unfold isBarB
            rw [decide_eq_false (by omega), Bool.false_and]
          have h1 : ¬ (((d.map V.int).length : Nat) : Int) < 1 := h1
          refine ⟨_, rfl, B, _, rfl, .inl (SqL.of hB), _, _, rfl, rfl, _, rfl, d2_ (fun h5 => iteT (qn (no ?_) H4 (s3.trans s4))) (fun h5 => ?_)⟩
          · have h5 : (5 : Int) < (((d.map V.int).length : Nat) : Int) := h5
            unfold isBarB
            rw [decide_eq_false (by omega), Bool.false_and]
          have h5 : ¬ (5 : Int) < (((d.map V.int).length : Nat) : Int) := h5
          refine ⟨_, rfl, _, rfl, B, d, rfl, rfl, SqL.of hB, fun ms p hp ho np => ?_⟩
          have s5 : Same H4 (upd H4 p (.lst (ms.map V.int))) := sNew np
          have hp5 : upd H4 p (.lst (ms.map V.int)) p = some (.lst (ms.map V.int)) := upd_same
          generalize upd H4 p (.lst (ms.map V.int)) = H5 at s5 hp5 ⊢
          have s35 := s3.trans (s4.trans s5)
          have test := bar_test rg hp ho
          refine ⟨_, _, dp_list (SqL.of (s5 _ _ hB)), dp_list (SqL.of hp5), shaped_list _, shaped_list _, _, rfl, ?_⟩
          rw [eqv_list]
          refine n2_ (fun hm => qn (no (Bool.eq_false_iff.mpr fun z => hm (test.mp z).2.2)) H5 s35) (fun hm => ?_)
          have good : isBarB d = true := test.mpr ⟨by omega, by omega, hm⟩
          have hw : barOf (TL.tl y) = some d := by rw [← hd]; exact barOf_some all (by rw [hd]; exact good)
          have hF5 := s5 _ _ (s4 _ _ hF3)
          have hL5 := s5 _ _ (s4 _ _ hL3)
          refine ⟨_, rfl, .inl ⟨rfl, _, SqL.of hF5⟩, _, rfl, F, ys, _, rfl, rfl, hF5, by rw [ly.length, el]; exact small' (by omega), ?_⟩
          refine ⟨_, _, _, ys ++ [.ref B], ds ++ [d], rfl, sPut s35 nF, by rw [upd_ne LF]; exact hL5, upd_same, ?_, by rw [take_more he]; exact barsOf_snoc hw hb, by rw [List.length_append, el]; rfl, fun z => ?_⟩
          · refine LL.snoc (LL.keepM ly fun c cs hm e => ?_) (by rw [upd_ne FB.symm]; exact s5 _ _ hB)
            have h1 : c ≠ F := fun z => nm (by rw [← z]; exact hm)
            rw [upd_ne h1]
            exact s5 _ _ (s4 _ _ e)
          · rcases List.mem_append.mp z with h | h
            · exact nm h
            · exact FB (V.ref.inj (List.mem_singleton.mp h))
    · rintro σ H3 ⟨v2, v3, v4, ys, ds, rfl, s3, hL3, hF3, ly, hb, el, nm⟩
      rw [hlen, List.take_length] at hb
      rw [hlen] at el
      refine ⟨_, rfl, F, _, rfl, .inl (SqL.of hF3), _, _, rfl, rfl, _, rfl, d2_ (fun h3 => ?_) (fun h3 => ?_)⟩
      · have h3 : (3 : Int) < ((ys.length : Nat) : Int) := h3
        rw [ly.length] at h3
        exact qn (noteOf_many hne (by omega)) H3 s3
      · have h3 : ¬ (3 : Int) < ((ys.length : Nat) : Int) := h3
        rw [ly.length] at h3
        exact ⟨_, rfl, q ds ((noteOf_few hne (by omega)).trans hb) H3 F ys s3 nF hF3 ly⟩
end
abbrev s_law_tried : Stmt := topS 22
abbrev N_law_tried : List Str := ["text", "e"]
theorem sc_law_tried : FnScope N_law_tried ["text"] (defScope s_law_tried) := ⟨rfl, rfl, rfl, by decide +kernel, rfl, by decide +kernel, by decide +kernel⟩
section
variable {P : Program} {w : World} {K : PySem.W.Frag} {mg : Str → Option Value} {base : Heap}
/-- _law_tried(text): (0, the table) or (1, the error's word) -/
def sp_law_tried (K : PySem.W.Frag) : Sp := fun vs H Q _ => ∃ x : Str, vs = [.str x] ∧ x.length ≤ 900 ∧ (∀ ds, noteOf x = some ds → ∀ H' t p ys, Same H H' → H' t = some (.tup [.int 0, .ref p]) → H' p = some (.lst ys) → LL H' ys ds → Q (.ref t) H') ∧
  (noteOf x = none → ∀ H' t, Same H H' → H' t = some (.tup [.int 1, .str "note"]) → Q (.ref t) H')
theorem ok_law_tried {f : Addr} {fd : FuncData} (F : Fun K "_law_tried" "_law_tried" s_law_tried f fd) {cs : Nat → Addr} {cB : Addr} (T_kinds : Kinds K mg cs cB) (C_read : Cal P w K mg base (L2N.CX P w) 3 "read" ["text"] (sp_read K cs))
    (C_law_word_of : CalE P w K mg base 1 "_law_word_of" ["e"] (sp_law_word_of K cs)) : FnOk P w K mg base CX0 4 f fd ["text"] (sp_law_tried K) := by
  refine F.ok sc_law_tried (fun vs H Q E h => ?_) (fun cdv A outer s H vs Q E hr h => ?_)
  · obtain ⟨x, rfl, _⟩ := h
    rfl
  · obtain ⟨x, rfl, lx, q, qn⟩ := h
    refine ⟨_, (pss_one (L2N.ps_try_as (i := 1) (tb := fun W => tRet (tTup (tCons (tC (.int 0)) (tCons (tCallS (sp_read K cs) (WE W) (tCons (tVar 0) tNil)) tNil)))) (ts := fun a cls d => tRet (tTup (tCons (tC (.int 1)) (tCons (tWord K cs a cls d 1) tNil)))) (Wout := fun _ _ _ _ => False) rfl rfl sc_law_tried.nd rfl rfl ⟨rfl, by decide, Or.inl T_kinds.gB⟩ nobodyN (fun W pn xe tk _ => pss_one (ps_ret (pe_tup (pa_cons pe_int (pa_cons (by exact (pe_cS C_read hr (by decide) tk (pa_cons (pv 0) pa_nil))) pa_nil))))) (fun a oe cls d pn hz hf => pss_one (ps_ret (pe_tup (pa_cons pe_int (pa_cons (by exact (pe_word C_law_word_of hr (by decide) hz hf (pa_cons (pv 1) pa_nil))) pa_nil))))))), ?_⟩
    refine ⟨_, rfl, x, rfl, lx, fun ds hd H1 p ys s1 np hp ly => ?_, fun hn H1 s1 => ?_⟩
    · refine ⟨by show 2 ≤ sizeLine; decide, fun t nt => ?_⟩
      have s2 := sNew (o := .tup [.int 0, .ref p]) nt
      exact q ds hd _ t p ys (s1.trans s2) upd_same (s2 _ _ hp) (ly.same s2)
    · refine ⟨true, T_kinds.o3.m, fun _ e ne => ?_, fun z => Bool.noConfusion z⟩
      refine ⟨cs 3, 3, "note", rfl, rfl, rfl, T_kinds.k 3 (by decide), by decide, rfl, fun H2 s2 => ?_⟩
      refine ⟨by show 2 ≤ sizeLine; decide, fun t nt => ?_⟩
      exact qn hn _ t (s1.trans (s2.trans (sNew nt))) upd_same
end
abbrev s_law : Stmt := topS 23
abbrev N_law : List Str := ["script", "table", "words", "pieces", "bar", "text", "due", "found"]
theorem sc_law : FnScope N_law ["script"] (defScope s_law) := ⟨rfl, rfl, rfl, by decide +kernel, rfl, by decide +kernel, by decide +kernel⟩
section
variable {P : Program} {w : World} {K : PySem.W.Frag} {mg : Str → Option Value} {base : Heap}
theorem ok_law {f : Addr} {fd : FuncData} (F : Fun K "law" "law" s_law f fd) (m_str : mg "str" = none) (m_isinstance : mg "isinstance" = none) (m_list : mg "list" = none) (C_law_table_by : Cal P w K mg base CX0 2 "_law_table_by" ["script", "at", "most"] (sp_law_table_by K)) (C_law_cell_at : Cal P w K mg base CX0 1 "_law_cell_at" ["script", "k"] (sp_law_cell_at K))
    (C_law_spoilt : Cal P w K mg base CX0 1 "_law_spoilt" ["words", "kind", "cell"] (sp_law_spoilt K)) (C_law_due : Cal P w K mg base CX0 1 "_law_due" ["text"] (sp_law_due K)) (C_law_tried : Cal P w K mg base CX0 4 "_law_tried" ["text"] (sp_law_tried K)) : FnOk P w K mg base CX0 5 f fd ["script"] (sp_law K) := by
  refine F.ok sc_law (fun vs H Q E h => ?_) (fun cdv A outer s H vs Q E hr h => ?_)
  · obtain ⟨a, ns, rfl, _⟩ := h
    rfl
  · obtain ⟨a, ns, rfl, hS, h63, q⟩ := h
    refine ⟨_, (pss_cons (ps_set (i := 1) sc_law.nd rfl (.inl rfl) (pe_c C_law_table_by hr (by decide) pass0 (pa_cons (pv 0) (pa_cons pe_int (pa_cons pe_int pa_nil)))))
      (pss_cons (ps_setLc (i := 2) (own := [("bar", 4)]) (g := gName 4) (tt := tYes) rfl sc_law.nd rfl rfl (sw_true rfl rfl rfl (by decide +kernel)) (pi_listK (K := K) (pv 1)) (blkOk_by (N := N_law) (sc := defScope s_law) (by decide +kernel)) (fun _ _ _ _ _ => (pg_name (i := 4) sc_law.nd rfl (.inl rfl))) (fun _ _ _ _ _ => pts_nil) (fun _ _ _ _ _ => (pe_joinK (K := K) pe_str (by exact (pe_lc (own := [("pieces", 3)]) (g := gName 3) (tt := tYes) rfl sc_law.nd (pi_listK (K := K) (pv 4)) (blkOk_by (by kernel_rfl)) (fun _ _ _ _ _ => (pg_name (i := 3) sc_law.nd rfl (.inl rfl))) (fun _ _ _ _ _ => pts_nil) (fun _ _ _ _ _ => (pe_callTy call_str_int (by rfl) m_str (by decide +kernel) (pa_cons (pv 3) pa_nil))))))))
      (pss_cons (ps_set (i := 5) sc_law.nd rfl (.inl rfl) (pe_c C_law_spoilt hr (by decide) pass0 (pa_cons (pv 2) (pa_cons (pe_op op_mod (pe_c C_law_cell_at hr (by decide) pass0 (pa_cons (pv 0) (pa_cons pe_int pa_nil))) pe_int) (pa_cons (pe_op op_mod (pe_c C_law_cell_at hr (by decide) pass0 (pa_cons (pv 0) (pa_cons pe_int pa_nil))) (pe_op op_pow pe_int pe_int)) pa_nil)))))
      (pss_cons (ps_set (i := 6) sc_law.nd rfl (.inl rfl) (pe_c C_law_due hr (by decide) pass0 (pa_cons (pv 5) pa_nil)))
      (pss_cons (ps_set (i := 7) sc_law.nd rfl (.inl rfl) (pe_c C_law_tried hr (by decide) pass0 (pa_cons (pv 5) pa_nil)))
      (pss_cons (ps_if (pt_cmpR op_isN (pv 6) pe_non (nomark _))
        (pss_one (ps_ret (pe_and (pe_cmpR op_eq (pe_ix (ixTK (K := K)) (pv 7) pe_int (fun _ _ => rfl)) pe_int (nomark _)) (pe_one (pe_cmpR op_eq (pe_ix (ixTK (K := K)) (pv 7) pe_int (fun _ _ => rfl)) pe_str (nomark _))))))
        pss_nil)
      (pss_one (ps_ret (pe_and (pe_cmpR op_eq (pe_ix (ixTK (K := K)) (pv 7) pe_int (fun _ _ => rfl)) pe_int (nomark _)) (pe_and (pe_callB (isiK (K := K)) (by rfl) m_isinstance (by decide +kernel) (pa_cons (pe_ix (ixTK (K := K)) (pv 7) pe_int (fun _ _ => rfl)) (pa_cons (pe_bltn (v := .ty "list") (by rfl) m_list (by decide +kernel) rfl) pa_nil))) (pe_one (pe_cmpR (eqDK (K := K) hr.units) (pe_ix (ixTK (K := K)) (pv 7) pe_int (fun _ _ => rfl)) (pv 6) (nomark _))))))))))))), ?_⟩
    refine ⟨_, rfl, a, ns, 0, 5, rfl, hS, by omega, by omega, fun H1 T xs ds s1 nT hT ll it => ?_⟩
    have el := ll.length
    have l3 := it.le
    refine ⟨_, rfl, T, rfl, ⟨_, SqL.of hT⟩, fun D nD => ?_⟩
    refine lc_list (K := K) (a := T) (xs := xs) (fun i H' => Same H1 H' ∧ H' D = some (.lst (((ds.take i).map wordS).map V.str))) ⟨sNew nD, upd_same⟩ (fun _ _ _ h => SqL.of (h.1 _ _ hT)) ?_ ?_
    · rintro i x J1 hi ⟨t1, hD⟩
      obtain ⟨t, d, hd, rfl, ht⟩ := ll.at hi
      have ib := it.is d (List.mem_of_getElem? hd)
      have l5 := ib.le
      refine ⟨rfl, yesT ?_⟩
      refine ⟨⟨_, rfl⟩, _, rfl, t, rfl, ⟨_, SqL.of (t1 _ _ ht)⟩, fun D2 nD2 => ?_⟩
      refine lc_list (K := K) (a := t) (xs := d.map V.int) (fun j H' => Same J1 H' ∧ H' D2 = some (.lst (((d.take j).map fun x => (⟨#[48 + x.toNat]⟩ : Str)).map V.str))) ⟨sNew nD2, upd_same⟩ (fun _ _ _ h => SqL.of (h.1 _ _ (t1 _ _ ht))) ?_ ?_
      · rintro j y J2 hj ⟨t2, hD2⟩
        obtain ⟨u, hu, rfl⟩ := map_get hj
        have hu5 := ib.rg u (List.mem_of_getElem? hu)
        refine ⟨rfl, yesT ⟨_, rfl, u, rfl, ?_, _, hD2, ?_, sPut t2 nD2, ?_⟩⟩
        · rcases (by omega : u = 1 ∨ u = 2 ∨ u = 3 ∨ u = 4 ∨ u = 5) with rfl | rfl | rfl | rfl | rfl <;> decide
        · rw [List.length_map, List.length_map, List.length_take]
          exact small' (by omega)
        · rw [upd_same, take_more hu, List.map_append, List.map_append, str_digit hu5.1 hu5.2]
          all_goals rfl
      · rintro J2 ⟨t2, hD2⟩
        rw [List.length_map, List.take_length] at hD2
        have hDk := t2 _ _ hD
        refine ⟨_, D2, _, rfl, rfl, .inl (SqL.of hD2), ?_, ?_⟩
        · have e0 : (Str.ofString "").length = 0 := by decide +kernel
          rw [e0, Nat.mul_zero, Nat.add_zero, List.map_map]
          have h1 : (d.map ((fun x => Str.length x) ∘ fun x : Int => (⟨#[48 + x.toNat]⟩ : Str))).sum = d.length := by
            clear hD2 hi ht hd ib l5
            induction d with
            | nil => rfl
            | cons x d ih =>
              rw [List.map_cons, List.sum_cons, ih, List.length_cons, Nat.add_comm]
              rfl
          show (List.map ((fun x => Str.length x) ∘ fun x : Int => (⟨#[48 + x.toNat]⟩ : Str)) d).sum ≤ _
          rw [h1]
          omega
        · rw [join_word]
          refine ⟨_, hDk, ?_, sPut (t1.trans t2) nD, ?_⟩
          · rw [List.length_map, List.length_map, List.length_take]
            exact small' (by omega)
          · rw [upd_same, take_more hd, List.map_append, List.map_append]
            all_goals rfl
    rintro H2 ⟨s2, hD⟩
    rw [el, List.take_length] at hD
    have hS2 := s2.seq (s1.seq hS)
    refine ⟨_, rfl, _, rfl, a, ns, 4, rfl, hS2, _, _, rfl, rfl, by show (0 : Int) < 6; decide, ?_⟩
    refine ⟨_, rfl, a, ns, 5, rfl, hS2, _, _, rfl, rfl, by show (0:Int) ≤ 9 ∧ (9:Int) ≤ 1000000 ∧ (10:Int).natAbs < 2 ^ 64; decide, _, _, rfl, rfl, by show (0 : Int) < 10 ^ (9 : Int).toNat; decide, ?_⟩
    refine ⟨D, ds.map wordS, _, _, rfl, hD, by rw [List.length_map]; exact l3, fun y hy => ?_, Int.emod_nonneg _ (by decide), fun H3 x s3 hx => ?_⟩
    · obtain ⟨d, hd, rfl⟩ := List.mem_map.mp hy
      rw [wordS_len]
      have := (it.is d hd).le
      omega
    refine ⟨_, rfl, x, rfl, hx, fun es he H4 p ys s4 np hp ly => ?_, fun hn H4 s4 => ?_⟩
    · refine ⟨_, rfl, x, rfl, hx, fun es2 he2 H5 t p2 ys2 s5 ht hp2 ly2 => ?_, fun hn => absurd (he.symm.trans hn) (by intro z; cases z)⟩
      have ee : es2 = es := Option.some.inj (he2.symm.trans he)
      subst ee
      refine ⟨_, rfl, rfl, _, rfl, dF_ (by intro z; cases z) ?_⟩
      refine ⟨_, rfl, t, _, _, _, rfl, rfl, SqT.of ht, rfl, rfl, _, rfl, dT_ rfl ?_⟩
      refine ⟨_, rfl, t, _, _, _, rfl, rfl, SqT.of ht, rfl, ?_⟩
      refine ⟨_, _, _, _, true, rfl, .ty _, .base (.lst hp2), kit_ty (by decide +kernel), true, rfl, iteT ?_⟩
      refine ⟨_, rfl, t, _, _, _, rfl, rfl, SqT.of ht, rfl, _, rfl, _, _, dp_table (SqL.of hp2) ly2, dp_table (SqL.of (s5 _ _ hp)) (ly.same s5), shaped_lsts _, shaped_lsts _, ?_⟩
      rw [eqv_table, decide_eq_true rfl]
      exact q _
    · refine ⟨_, rfl, x, rfl, hx, fun es2 he2 => absurd (he2.symm.trans hn) (by intro z; cases z), fun _ H5 t s5 ht => ?_⟩
      refine ⟨_, rfl, rfl, _, rfl, dT_ rfl ?_⟩
      refine ⟨_, rfl, t, _, _, _, rfl, rfl, SqT.of ht, rfl, rfl, _, rfl, dT_ rfl ?_⟩
      refine ⟨_, rfl, t, _, _, _, rfl, rfl, SqT.of ht, rfl, rfl, ?_⟩
      rw [decide_eq_true rfl]
      exact q _
end
theorem all_mk {l : PySem.W.OpenLaw} {w : World} {K : PySem.W.Frag} {h : Heap} {mg : Str → Option Value} {fa f0 f1 f2 f3 f4 f5 f6 f7 f8 f9 f10 : Addr} (X : K.In h) (G : h.Ns mainGlobals mg) (hfa : mg "law" = some (.ref fa))
    {od0 an0 od1 an1 od2 an2 od3 an3 od4 an4 od5 an5 od6 an6 od7 an7 od8 an8 od9 an9 od10 an10 : Option Addr} {sl0 sl1 sl2 sl3 sl4 sl5 sl6 sl7 sl8 sl9 sl10 : Array (Option Value)} {oc0 kV0 dc0 pm0 cd0 ct0 oc1 kV1 dc1 pm1 cd1 ct1 oc2 kV2 dc2 pm2 cd2 ct2 oc3 kV3 dc3 pm3 cd3 ct3 oc4 kV4 dc4 pm4 cd4 ct4 oc5 kV5 dc5 pm5 cd5 ct5 oc6 kV6 dc6 pm6 cd6 ct6 oc7 kV7 dc7 pm7 cd7 ct7 oc8 kV8 dc8 pm8 cd8 ct8 oc9 kV9 dc9 pm9 cd9 ct9 oc10 kV10 dc10 pm10 cd10 ct10 : Value}
    (a0 : PySem.W.nsIn K mainGlobals "is_bar" = some (some (.ref f0))) (l0 : K.lookup f0 = some ⟨oc0, od0, .func (PySem.W.fnOf "is_bar" "is_bar" (defArgs s_is_bar) (defBody s_is_bar) (defScope s_is_bar) .none kV0 dc0 pm0 an0 cd0 ct0), sl0⟩) (c0 : PySem.W.codeIn K cd0 "is_bar" = true) (k0 : PySem.W.keepIn K (.ref f0) = true)
    (a1 : PySem.W.nsIn K mainGlobals "bar_of" = some (some (.ref f1))) (l1 : K.lookup f1 = some ⟨oc1, od1, .func (PySem.W.fnOf "bar_of" "bar_of" (defArgs s_bar_of) (defBody s_bar_of) (defScope s_bar_of) .none kV1 dc1 pm1 an1 cd1 ct1), sl1⟩) (c1 : PySem.W.codeIn K cd1 "bar_of" = true) (k1 : PySem.W.keepIn K (.ref f1) = true)
    (a2 : PySem.W.nsIn K mainGlobals "read" = some (some (.ref f2))) (l2 : K.lookup f2 = some ⟨oc2, od2, .func (PySem.W.fnOf "read" "read" (defArgs s_read) (defBody s_read) (defScope s_read) .none kV2 dc2 pm2 an2 cd2 ct2), sl2⟩) (c2 : PySem.W.codeIn K cd2 "read" = true) (k2 : PySem.W.keepIn K (.ref f2) = true)
    (a3 : PySem.W.nsIn K mainGlobals "_law_cell_at" = some (some (.ref f3))) (l3 : K.lookup f3 = some ⟨oc3, od3, .func (PySem.W.fnOf "_law_cell_at" "_law_cell_at" (defArgs s_law_cell_at) (defBody s_law_cell_at) (defScope s_law_cell_at) .none kV3 dc3 pm3 an3 cd3 ct3), sl3⟩) (c3 : PySem.W.codeIn K cd3 "_law_cell_at" = true) (k3 : PySem.W.keepIn K (.ref f3) = true)
    (a4 : PySem.W.nsIn K mainGlobals "_law_word_of" = some (some (.ref f4))) (l4 : K.lookup f4 = some ⟨oc4, od4, .func (PySem.W.fnOf "_law_word_of" "_law_word_of" (defArgs s_law_word_of) (defBody s_law_word_of) (defScope s_law_word_of) .none kV4 dc4 pm4 an4 cd4 ct4), sl4⟩) (c4 : PySem.W.codeIn K cd4 "_law_word_of" = true) (k4 : PySem.W.keepIn K (.ref f4) = true)
    (a5 : PySem.W.nsIn K mainGlobals "_law_bar_by" = some (some (.ref f5))) (l5 : K.lookup f5 = some ⟨oc5, od5, .func (PySem.W.fnOf "_law_bar_by" "_law_bar_by" (defArgs s_law_bar_by) (defBody s_law_bar_by) (defScope s_law_bar_by) .none kV5 dc5 pm5 an5 cd5 ct5), sl5⟩) (c5 : PySem.W.codeIn K cd5 "_law_bar_by" = true) (k5 : PySem.W.keepIn K (.ref f5) = true)
    (a6 : PySem.W.nsIn K mainGlobals "_law_table_by" = some (some (.ref f6))) (l6 : K.lookup f6 = some ⟨oc6, od6, .func (PySem.W.fnOf "_law_table_by" "_law_table_by" (defArgs s_law_table_by) (defBody s_law_table_by) (defScope s_law_table_by) .none kV6 dc6 pm6 an6 cd6 ct6), sl6⟩) (c6 : PySem.W.codeIn K cd6 "_law_table_by" = true) (k6 : PySem.W.keepIn K (.ref f6) = true)
    (a7 : PySem.W.nsIn K mainGlobals "_law_spoilt" = some (some (.ref f7))) (l7 : K.lookup f7 = some ⟨oc7, od7, .func (PySem.W.fnOf "_law_spoilt" "_law_spoilt" (defArgs s_law_spoilt) (defBody s_law_spoilt) (defScope s_law_spoilt) .none kV7 dc7 pm7 an7 cd7 ct7), sl7⟩) (c7 : PySem.W.codeIn K cd7 "_law_spoilt" = true) (k7 : PySem.W.keepIn K (.ref f7) = true)
    (a8 : PySem.W.nsIn K mainGlobals "_law_due" = some (some (.ref f8))) (l8 : K.lookup f8 = some ⟨oc8, od8, .func (PySem.W.fnOf "_law_due" "_law_due" (defArgs s_law_due) (defBody s_law_due) (defScope s_law_due) .none kV8 dc8 pm8 an8 cd8 ct8), sl8⟩) (c8 : PySem.W.codeIn K cd8 "_law_due" = true) (k8 : PySem.W.keepIn K (.ref f8) = true)
    (a9 : PySem.W.nsIn K mainGlobals "_law_tried" = some (some (.ref f9))) (l9 : K.lookup f9 = some ⟨oc9, od9, .func (PySem.W.fnOf "_law_tried" "_law_tried" (defArgs s_law_tried) (defBody s_law_tried) (defScope s_law_tried) .none kV9 dc9 pm9 an9 cd9 ct9), sl9⟩) (c9 : PySem.W.codeIn K cd9 "_law_tried" = true) (k9 : PySem.W.keepIn K (.ref f9) = true)
    (a10 : PySem.W.nsIn K mainGlobals "law" = some (some (.ref f10))) (l10 : K.lookup f10 = some ⟨oc10, od10, .func (PySem.W.fnOf "law" "law" (defArgs s_law) (defBody s_law) (defScope s_law) .none kV10 dc10 pm10 an10 cd10 ct10), sl10⟩) (c10 : PySem.W.codeIn K cd10 "law" = true) (k10 : PySem.W.keepIn K (.ref f10) = true)
    (z_len : PySem.W.nsIn K mainGlobals "len" = some none)
    (z_isinstance : PySem.W.nsIn K mainGlobals "isinstance" = some none)
    (z_ValueError : PySem.W.nsIn K mainGlobals "ValueError" = some none)
    (z_range : PySem.W.nsIn K mainGlobals "range" = some none)
    (z_sorted : PySem.W.nsIn K mainGlobals "sorted" = some none)
    (z_str : PySem.W.nsIn K mainGlobals "str" = some none)
    (z_list : PySem.W.nsIn K mainGlobals "list" = some none)
    {t_MOST_ROWS : Tok} (y_MOST_ROWS : PySem.W.nsIn K mainGlobals "MOST_ROWS" = some (some (.int 5 t_MOST_ROWS)))
    {t_MOST_PIECES : Tok} (y_MOST_PIECES : PySem.W.nsIn K mainGlobals "MOST_PIECES" = some (some (.int 5 t_MOST_PIECES)))
    {t_FIGURES : Tok} (y_FIGURES : PySem.W.nsIn K mainGlobals "FIGURES" = some (some (.str (PySem.Str.ofString "12345") t_FIGURES)))
    {t_MOST : Tok} (y_MOST : PySem.W.nsIn K mainGlobals "MOST" = some (some (.int 3 t_MOST)))
    {e0 e1 e2 e3 eB : Addr} (ce_a : PySem.W.nsIn K mainGlobals "BiteError" = some (some (.ref eB))) (cB_b : PySem.W.subIn K (.ref eB) (.type "BaseException") = some true) (cB_d : PySem.W.hasDictIn K eB = true) (cB_t : PySem.W.typeIn K (.ref eB) = some (.type "type"))
    (cs_n : PySem.W.specialIn K (.builtin "object.__class__") "__get__" = some (some (.builtin "getset_descriptor.__get__"))) (cs_t : PySem.W.takesIn K (.builtin "object.__class__") = some true)
    (ca_0 : PySem.W.nsIn K mainGlobals "NoBar" = some (some (.ref e0))) (cx_0 : PySem.W.excIn K e0 [.type "ValueError", .type "Exception", .type "BaseException", .type "object"] "ValueError.__new__" = true) (ck_0 : PySem.W.keepIn K (.ref e0) = true)
    (cb_0 : PySem.W.subIn K (.ref e0) (.type "BaseException") = some true) (ct_0 : PySem.W.typeIn K (.ref e0) = some (.type "type")) (cm_0 : PySem.W.subIn K (.ref e0) (.ref eB) = some true) (cv_0 : PySem.W.kitOne K (.ref e0) (.type "ValueError") = some true)
    (ch_0 : PySem.W.findIn K (.ref e0) "__getattribute__" = some (some (.builtin "BaseException.__getattribute__"))) (cg_0 : PySem.W.findIn K (.ref e0) "__getattr__" = some none) (cy_0 : PySem.W.hasDictIn K e0 = true)
    (cd_0 : PySem.W.findIn K (.ref e0) "__class__" = some (some (.builtin "object.__class__"))) (cj_0 : PySem.W.mroIn K e0 (.type "object") = some true)
    (ca_1 : PySem.W.nsIn K mainGlobals "NoBite" = some (some (.ref e1))) (cx_1 : PySem.W.excIn K e1 [.type "ValueError", .type "Exception", .type "BaseException", .type "object"] "ValueError.__new__" = true) (ck_1 : PySem.W.keepIn K (.ref e1) = true)
    (cb_1 : PySem.W.subIn K (.ref e1) (.type "BaseException") = some true) (ct_1 : PySem.W.typeIn K (.ref e1) = some (.type "type")) (cm_1 : PySem.W.subIn K (.ref e1) (.ref eB) = some true) (cv_1 : PySem.W.kitOne K (.ref e1) (.type "ValueError") = some true)
    (ch_1 : PySem.W.findIn K (.ref e1) "__getattribute__" = some (some (.builtin "BaseException.__getattribute__"))) (cg_1 : PySem.W.findIn K (.ref e1) "__getattr__" = some none) (cy_1 : PySem.W.hasDictIn K e1 = true)
    (cd_1 : PySem.W.findIn K (.ref e1) "__class__" = some (some (.builtin "object.__class__"))) (cj_1 : PySem.W.mroIn K e1 (.type "object") = some true)
    (ca_2 : PySem.W.nsIn K mainGlobals "NoTable" = some (some (.ref e2))) (cx_2 : PySem.W.excIn K e2 [.type "ValueError", .type "Exception", .type "BaseException", .type "object"] "ValueError.__new__" = true) (ck_2 : PySem.W.keepIn K (.ref e2) = true)
    (cb_2 : PySem.W.subIn K (.ref e2) (.type "BaseException") = some true) (ct_2 : PySem.W.typeIn K (.ref e2) = some (.type "type")) (cm_2 : PySem.W.subIn K (.ref e2) (.ref eB) = some true) (cv_2 : PySem.W.kitOne K (.ref e2) (.type "ValueError") = some true)
    (ch_2 : PySem.W.findIn K (.ref e2) "__getattribute__" = some (some (.builtin "BaseException.__getattribute__"))) (cg_2 : PySem.W.findIn K (.ref e2) "__getattr__" = some none) (cy_2 : PySem.W.hasDictIn K e2 = true)
    (cd_2 : PySem.W.findIn K (.ref e2) "__class__" = some (some (.builtin "object.__class__"))) (cj_2 : PySem.W.mroIn K e2 (.type "object") = some true)
    (ca_3 : PySem.W.nsIn K mainGlobals "NoNote" = some (some (.ref e3))) (cx_3 : PySem.W.excIn K e3 [.type "ValueError", .type "Exception", .type "BaseException", .type "object"] "ValueError.__new__" = true) (ck_3 : PySem.W.keepIn K (.ref e3) = true)
    (cb_3 : PySem.W.subIn K (.ref e3) (.type "BaseException") = some true) (ct_3 : PySem.W.typeIn K (.ref e3) = some (.type "type")) (cm_3 : PySem.W.subIn K (.ref e3) (.ref eB) = some true) (cv_3 : PySem.W.kitOne K (.ref e3) (.type "ValueError") = some true)
    (ch_3 : PySem.W.findIn K (.ref e3) "__getattribute__" = some (some (.builtin "BaseException.__getattribute__"))) (cg_3 : PySem.W.findIn K (.ref e3) "__getattr__" = some none) (cy_3 : PySem.W.hasDictIn K e3 = true)
    (cd_3 : PySem.W.findIn K (.ref e3) "__class__" = some (some (.builtin "object.__class__"))) (cj_3 : PySem.W.mroIn K e3 (.type "object") = some true)
    (ck_00 : PySem.W.kitOne K (.ref e0) (.ref e0) = some true) (ck_01 : PySem.W.kitOne K (.ref e0) (.ref e1) = some false) (ck_02 : PySem.W.kitOne K (.ref e0) (.ref e2) = some false) (ck_03 : PySem.W.kitOne K (.ref e0) (.ref e3) = some false)
    (ck_10 : PySem.W.kitOne K (.ref e1) (.ref e0) = some false) (ck_11 : PySem.W.kitOne K (.ref e1) (.ref e1) = some true) (ck_12 : PySem.W.kitOne K (.ref e1) (.ref e2) = some false) (ck_13 : PySem.W.kitOne K (.ref e1) (.ref e3) = some false)
    (ck_20 : PySem.W.kitOne K (.ref e2) (.ref e0) = some false) (ck_21 : PySem.W.kitOne K (.ref e2) (.ref e1) = some false) (ck_22 : PySem.W.kitOne K (.ref e2) (.ref e2) = some true) (ck_23 : PySem.W.kitOne K (.ref e2) (.ref e3) = some false)
    (ck_30 : PySem.W.kitOne K (.ref e3) (.ref e0) = some false) (ck_31 : PySem.W.kitOne K (.ref e3) (.ref e1) = some false) (ck_32 : PySem.W.kitOne K (.ref e3) (.ref e2) = some false) (ck_33 : PySem.W.kitOne K (.ref e3) (.ref e3) = some true)
    : ∃ fd : FuncData, (∀ (s : Shared) (v : Value), BindsTo s fd ⟨[v], []⟩ [("script", v)]) ∧ ∀ base : Heap, K.In base → base.Ns mainGlobals mg → FnOk l.prog w K mg base CX0 60 fa fd ["script"] (sp_law K) := by
  have e := hfa.symm.trans (PySem.W.mg_of X G a10)
  cases e
  have m_len := PySem.W.mg_none_of X G z_len
  have m_isinstance := PySem.W.mg_none_of X G z_isinstance
  have m_ValueError := PySem.W.mg_none_of X G z_ValueError
  have m_range := PySem.W.mg_none_of X G z_range
  have m_sorted := PySem.W.mg_none_of X G z_sorted
  have m_str := PySem.W.mg_none_of X G z_str
  have m_list := PySem.W.mg_none_of X G z_list
  have g_MOST_ROWS := PySem.W.mg_of X G y_MOST_ROWS
  have g_MOST_PIECES := PySem.W.mg_of X G y_MOST_PIECES
  have g_FIGURES := PySem.W.mg_of X G y_FIGURES
  have g_MOST := PySem.W.mg_of X G y_MOST
  have T_kinds : Kinds K mg (fun j => match j with | 0 => e0 | 1 => e1 | 2 => e2 | _ => e3) eB :=
    { gB := PySem.W.mg_of X G ce_a, o0 := ⟨PySem.W.mg_of X G ca_0, cx_0, ck_0, cb_0, ct_0, PySem.W.exm_ref cB_b cB_d cB_t cm_0⟩, o1 := ⟨PySem.W.mg_of X G ca_1, cx_1, ck_1, cb_1, ct_1, PySem.W.exm_ref cB_b cB_d cB_t cm_1⟩, o2 := ⟨PySem.W.mg_of X G ca_2, cx_2, ck_2, cb_2, ct_2, PySem.W.exm_ref cB_b cB_d cB_t cm_2⟩, o3 := ⟨PySem.W.mg_of X G ca_3, cx_3, ck_3, cb_3, ct_3, PySem.W.exm_ref cB_b cB_d cB_t cm_3⟩,
      k := fun i hi => match i, hi with
        | 0, _ => ⟨⟨ch_0, cg_0, cb_0, cy_0, cd_0, cs_n, cs_t, cj_0⟩, cv_0, fun j hj => match j, hj with | 0, _ => ck_00 | 1, _ => ck_01 | 2, _ => ck_02 | 3, _ => ck_03 | _ + 4, h => absurd h (by omega)⟩
        | 1, _ => ⟨⟨ch_1, cg_1, cb_1, cy_1, cd_1, cs_n, cs_t, cj_1⟩, cv_1, fun j hj => match j, hj with | 0, _ => ck_10 | 1, _ => ck_11 | 2, _ => ck_12 | 3, _ => ck_13 | _ + 4, h => absurd h (by omega)⟩
        | 2, _ => ⟨⟨ch_2, cg_2, cb_2, cy_2, cd_2, cs_n, cs_t, cj_2⟩, cv_2, fun j hj => match j, hj with | 0, _ => ck_20 | 1, _ => ck_21 | 2, _ => ck_22 | 3, _ => ck_23 | _ + 4, h => absurd h (by omega)⟩
        | 3, _ => ⟨⟨ch_3, cg_3, cb_3, cy_3, cd_3, cs_n, cs_t, cj_3⟩, cv_3, fun j hj => match j, hj with | 0, _ => ck_30 | 1, _ => ck_31 | 2, _ => ck_32 | 3, _ => ck_33 | _ + 4, h => absurd h (by omega)⟩
        | _ + 4, h => absurd h (by omega) }
  have F0 := fun_mk (st := s_is_bar) l0 c0 k0
  have b0 := F0.binds (ps := ["bar"]) fun _ _ _ _ _ _ us hl => match us, hl with | [_], _ => rfl
  have F1 := fun_mk (st := s_bar_of) l1 c1 k1
  have b1 := F1.binds (ps := ["word"]) fun _ _ _ _ _ _ us hl => match us, hl with | [_], _ => rfl
  have F2 := fun_mk (st := s_read) l2 c2 k2
  have b2 := F2.binds (ps := ["text"]) fun _ _ _ _ _ _ us hl => match us, hl with | [_], _ => rfl
  have F3 := fun_mk (st := s_law_cell_at) l3 c3 k3
  have b3 := F3.binds (ps := ["script", "k"]) fun _ _ _ _ _ _ us hl => match us, hl with | [_, _], _ => rfl
  have F4 := fun_mk (st := s_law_word_of) l4 c4 k4
  have b4 := F4.binds (ps := ["e"]) fun _ _ _ _ _ _ us hl => match us, hl with | [_], _ => rfl
  have F5 := fun_mk (st := s_law_bar_by) l5 c5 k5
  have b5 := F5.binds (ps := ["cell", "most"]) fun _ _ _ _ _ _ us hl => match us, hl with | [_, _], _ => rfl
  have F6 := fun_mk (st := s_law_table_by) l6 c6 k6
  have b6 := F6.binds (ps := ["script", "at", "most"]) fun _ _ _ _ _ _ us hl => match us, hl with | [_, _, _], _ => rfl
  have F7 := fun_mk (st := s_law_spoilt) l7 c7 k7
  have b7 := F7.binds (ps := ["words", "kind", "cell"]) fun _ _ _ _ _ _ us hl => match us, hl with | [_, _, _], _ => rfl
  have F8 := fun_mk (st := s_law_due) l8 c8 k8
  have b8 := F8.binds (ps := ["text"]) fun _ _ _ _ _ _ us hl => match us, hl with | [_], _ => rfl
  have F9 := fun_mk (st := s_law_tried) l9 c9 k9
  have b9 := F9.binds (ps := ["text"]) fun _ _ _ _ _ _ us hl => match us, hl with | [_], _ => rfl
  have F10 := fun_mk (st := s_law) l10 c10 k10
  refine ⟨PySem.W.fnOf "law" "law" (defArgs s_law) (defBody s_law) (defScope s_law) .none kV10 dc10 pm10 an10 cd10 ct10, fun s v => .of_eq rfl, fun base _ _ => ?_⟩
  have C_is_bar := Cal.mk ⟨_, _, ok_is_bar (P := l.prog) (w := w) (base := base) F0 (m_len := m_len) (g_MOST_ROWS := g_MOST_ROWS) (g_MOST_PIECES := g_MOST_PIECES), PySem.W.mg_of X G a0, k0, b0⟩
  have C_bar_of := Cal.mk ⟨_, _, ok_bar_of (P := l.prog) (w := w) (base := base) F1 (g_FIGURES := g_FIGURES) (C_is_bar := C_is_bar) (T_kinds := T_kinds), PySem.W.mg_of X G a1, k1, b1⟩
  have C_read := Cal.mk ⟨_, _, ok_read (P := l.prog) (w := w) (base := base) F2 (m_len := m_len) (g_MOST := g_MOST) (T_kinds := T_kinds) (C_bar_of := C_bar_of), PySem.W.mg_of X G a2, k2, b2⟩
  have C_law_cell_at := Cal.mk ⟨_, _, ok_law_cell_at (P := l.prog) (w := w) (base := base) F3 (m_len := m_len), PySem.W.mg_of X G a3, k3, b3⟩
  have C_law_word_of := CalE.mk ⟨_, _, ok_law_word_of (P := l.prog) (w := w) (base := base) F4 (m_isinstance := m_isinstance) (m_ValueError := m_ValueError) (T_kinds := T_kinds), PySem.W.mg_of X G a4, k4, b4⟩
  have C_law_bar_by := Cal.mk ⟨_, _, ok_law_bar_by (P := l.prog) (w := w) (base := base) F5 (m_range := m_range) (m_sorted := m_sorted), PySem.W.mg_of X G a5, k5, b5⟩
  have C_law_table_by := Cal.mk ⟨_, _, ok_law_table_by (P := l.prog) (w := w) (base := base) F6 (m_range := m_range) (C_law_cell_at := C_law_cell_at) (C_law_bar_by := C_law_bar_by), PySem.W.mg_of X G a6, k6, b6⟩
  have C_law_spoilt := Cal.mk ⟨_, _, ok_law_spoilt (P := l.prog) (w := w) (base := base) F7 (m_len := m_len) (m_range := m_range), PySem.W.mg_of X G a7, k7, b7⟩
  have C_law_due := Cal.mk ⟨_, _, ok_law_due (P := l.prog) (w := w) (base := base) F8 (m_len := m_len) (m_sorted := m_sorted), PySem.W.mg_of X G a8, k8, b8⟩
  have C_law_tried := Cal.mk ⟨_, _, ok_law_tried (P := l.prog) (w := w) (base := base) F9 (T_kinds := T_kinds) (C_read := C_read) (C_law_word_of := C_law_word_of), PySem.W.mg_of X G a9, k9, b9⟩
  exact (ok_law (P := l.prog) (w := w) (base := base) F10 (m_str := m_str) (m_isinstance := m_isinstance) (m_list := m_list) (C_law_table_by := C_law_table_by) (C_law_cell_at := C_law_cell_at) (C_law_spoilt := C_law_spoilt) (C_law_due := C_law_due) (C_law_tried := C_law_tried)).mono (by decide)
end Bb
open PySem PySem.W PyProof.Rows
set_option maxRecDepth 100000 in
set_option maxHeartbeats 0 in
theorem PySem.Challenge.cw_bitebar_k15_read_holds : PySem.Challenge.rw_bitebar_k15_read.Holds := by
  w_on; o_law; k_head; (case hw => w_witness2)
  k_fill
  refine L2.walk_of (l := PySem.Challenge.rw_bitebar_k15_read) (n := 63) (k := 60) (x := "script") (CX := fun _ => L2.CX0) (sp := fun w => Bb.sp_law _) rfl (by decide) rfl ⟨rfl, by decide, by decide⟩ (fun w h Y => PySem.W.kIn_of Y) ?F (fun _ H a ns hl _ hS => ⟨a, ns, rfl, hS, hl, fun _ => rfl⟩) (fun _ _ _ _ _ h => h)
  case F =>
    intro w mg fa h KX G hmg
    refine' Bb.all_mk KX G hmg ?a0 ?l0 ?c0 ?k0 ?a1 ?l1 ?c1 ?k1 ?a2 ?l2 ?c2 ?k2 ?a3 ?l3 ?c3 ?k3 ?a4 ?l4 ?c4 ?k4 ?a5 ?l5 ?c5 ?k5 ?a6 ?l6 ?c6 ?k6 ?a7 ?l7 ?c7 ?k7 ?a8 ?l8 ?c8 ?k8 ?a9 ?l9 ?c9 ?k9 ?a10 ?l10 ?c10 ?k10 ?z_len ?z_isinstance ?z_ValueError ?z_range ?z_sorted ?z_str ?z_list ?y_MOST_ROWS ?y_MOST_PIECES ?y_FIGURES ?y_MOST ?ce_a ?cB_b ?cB_d ?cB_t ?cs_n ?cs_t ?ca_0 ?cx_0 ?ck_0 ?cb_0 ?ct_0 ?cm_0 ?cv_0 ?ch_0 ?cg_0 ?cy_0 ?cd_0 ?cj_0 ?ca_1 ?cx_1 ?ck_1 ?cb_1 ?ct_1 ?cm_1 ?cv_1 ?ch_1 ?cg_1 ?cy_1 ?cd_1 ?cj_1 ?ca_2 ?cx_2 ?ck_2 ?cb_2 ?ct_2 ?cm_2 ?cv_2 ?ch_2 ?cg_2 ?cy_2 ?cd_2 ?cj_2 ?ca_3 ?cx_3 ?ck_3 ?cb_3 ?ct_3 ?cm_3 ?cv_3 ?ch_3 ?cg_3 ?cy_3 ?cd_3 ?cj_3 ?ck_00 ?ck_01 ?ck_02 ?ck_03 ?ck_10 ?ck_11 ?ck_12 ?ck_13 ?ck_20 ?ck_21 ?ck_22 ?ck_23 ?ck_30 ?ck_31 ?ck_32 ?ck_33
    (case a0 => k_is); (case l0 => k_is); (case c0 => k_is); (case k0 => k_is); (case a1 => k_is); (case l1 => k_is); (case c1 => k_is); (case k1 => k_is); (case a2 => k_is); (case l2 => k_is); (case c2 => k_is); (case k2 => k_is); (case a3 => k_is); (case l3 => k_is); (case c3 => k_is); (case k3 => k_is); (case a4 => k_is); (case l4 => k_is); (case c4 => k_is); (case k4 => k_is); (case a5 => k_is); (case l5 => k_is); (case c5 => k_is); (case k5 => k_is); (case a6 => k_is); (case l6 => k_is); (case c6 => k_is); (case k6 => k_is); (case a7 => k_is); (case l7 => k_is); (case c7 => k_is); (case k7 => k_is); (case a8 => k_is); (case l8 => k_is); (case c8 => k_is); (case k8 => k_is); (case a9 => k_is); (case l9 => k_is); (case c9 => k_is); (case k9 => k_is); (case a10 => k_is); (case l10 => k_is); (case c10 => k_is); (case k10 => k_is); (case z_len => k_is); (case z_isinstance => k_is); (case z_ValueError => k_is); (case z_range => k_is); (case z_sorted => k_is); (case z_str => k_is); (case z_list => k_is); (case y_MOST_ROWS => k_is); (case y_MOST_PIECES => k_is); (case y_FIGURES => k_is); (case y_MOST => k_is); (case ce_a => k_is); (case cB_b => k_is); (case cB_d => k_is); (case cB_t => k_is); (case cs_n => k_is); (case cs_t => k_is); (case ca_0 => k_is); (case cx_0 => k_exc); (case ck_0 => k_is); (case cb_0 => k_is); (case ct_0 => k_is); (case cm_0 => k_is); (case cv_0 => kit_is); (case ch_0 => k_is); (case cg_0 => k_is); (case cy_0 => k_is); (case cd_0 => k_is); (case cj_0 => k_is); (case ca_1 => k_is); (case cx_1 => k_exc); (case ck_1 => k_is); (case cb_1 => k_is); (case ct_1 => k_is); (case cm_1 => k_is); (case cv_1 => kit_is); (case ch_1 => k_is); (case cg_1 => k_is); (case cy_1 => k_is); (case cd_1 => k_is); (case cj_1 => k_is); (case ca_2 => k_is); (case cx_2 => k_exc); (case ck_2 => k_is); (case cb_2 => k_is); (case ct_2 => k_is); (case cm_2 => k_is); (case cv_2 => kit_is); (case ch_2 => k_is); (case cg_2 => k_is); (case cy_2 => k_is); (case cd_2 => k_is); (case cj_2 => k_is); (case ca_3 => k_is); (case cx_3 => k_exc); (case ck_3 => k_is); (case cb_3 => k_is); (case ct_3 => k_is); (case cm_3 => k_is); (case cv_3 => kit_is); (case ch_3 => k_is); (case cg_3 => k_is); (case cy_3 => k_is); (case cd_3 => k_is); (case cj_3 => k_is); (case ck_00 => kit_is); (case ck_01 => kit_is); (case ck_02 => kit_is); (case ck_03 => kit_is); (case ck_10 => kit_is); (case ck_11 => kit_is); (case ck_12 => kit_is); (case ck_13 => kit_is); (case ck_20 => kit_is); (case ck_21 => kit_is); (case ck_22 => kit_is); (case ck_23 => kit_is); (case ck_30 => kit_is); (case ck_31 => kit_is); (case ck_32 => kit_is); (case ck_33 => kit_is)
#print axioms PySem.Challenge.cw_bitebar_k15_read_holds
