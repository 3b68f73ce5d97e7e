import PyProof.Rows.All
import Wide.All
import OpenK.AllK
import Wide.FinOn
import HandS.ForMost
import HandS.SortKw
import HandS.Deep
import HandS.IsInst
import HandS.Codes
import HandS.Replace
import HandS.ExcCtx
import HandS.ExcIs
import HandS.HotCalls
import KE.RegKIsAll
import PySem.Challenge.RW_bitebar_k13_refused
set_option Elab.async false
set_option linter.all false
set_option maxRecDepth 100000
set_option maxHeartbeats 8000000
namespace Bb
open PySem PySem.Spec PyProof.Rows L2
/-! ### bars, bites -/
/-- a bar of at most m rows of at most m pieces -/
structure IsBar (m : Int) (b : List Int) : Prop where
  ne : 1 ≤ b.length
  le : (b.length : Int) ≤ m
  pw : b.Pairwise (· ≥ ·)
  rg : ∀ x ∈ b, 1 ≤ x ∧ x ≤ m
theorem IsBar.mono {m n : Int} {b : List Int} (h : IsBar m b) (hn : m ≤ n) : IsBar n b :=
  ⟨h.ne, Int.le_trans h.le hn, h.pw, fun x hx => ⟨(h.rg x hx).1, Int.le_trans (h.rg x hx).2 hn⟩⟩
/-- each row from 1 on, none greater than the one ahead -/
def falls (m : Int) : List Int → Bool
  | [] => true
  | x :: xs => decide (1 ≤ x ∧ x ≤ m) && falls x xs
def isBarB (b : List Int) : Bool := decide (1 ≤ b.length ∧ b.length ≤ 5) && falls 5 b
theorem falls_iff {m : Int} {b : List Int} : falls m b = true ↔ b.Pairwise (· ≥ ·) ∧ ∀ x ∈ b, 1 ≤ x ∧ x ≤ m := by
  induction b generalizing m with
  | nil => simp [falls]
  | cons x xs ih =>
    rw [falls, Bool.and_eq_true, decide_eq_true_eq, ih, List.pairwise_cons]
    constructor
    · rintro ⟨⟨h1, h2⟩, h3, h4⟩
      refine ⟨⟨fun y hy => (h4 y hy).2, h3⟩, fun y hy => ?_⟩
      rcases List.mem_cons.mp hy with rfl | hy
      · exact ⟨h1, h2⟩
      · exact ⟨(h4 y hy).1, Int.le_trans (h4 y hy).2 h2⟩
    · rintro ⟨⟨h1, h2⟩, h3⟩
      exact ⟨h3 x (List.mem_cons_self), h2, fun y hy => ⟨(h3 y (List.mem_cons_of_mem _ hy)).1, h1 y hy⟩⟩
theorem isBarB_iff {b : List Int} : isBarB b = true ↔ IsBar 5 b := by
  unfold isBarB
  rw [Bool.and_eq_true, decide_eq_true_eq, falls_iff]
  constructor
  · rintro ⟨⟨h1, h2⟩, h3, h4⟩
    exact ⟨h1, by omega, h3, h4⟩
  · rintro ⟨h1, h2, h3, h4⟩
    exact ⟨⟨h1, by omega⟩, h3, h4⟩
/-- the bites of row r, columns below n -/
def rowL (r : Nat) : Nat → List (Nat × Nat)
  | 0 => []
  | n + 1 => rowL r n ++ if 0 < r + n then [(r, n)] else []
def bitesFrom (r : Nat) : List Int → List (Nat × Nat)
  | [] => []
  | x :: xs => rowL r x.toNat ++ bitesFrom (r + 1) xs
def bitesL (b : List Int) : List (Nat × Nat) := bitesFrom 0 b
theorem bitesFrom_append (r : Nat) : ∀ (xs ys : List Int), bitesFrom r (xs ++ ys) = bitesFrom r xs ++ bitesFrom (r + xs.length) ys := by
  intro xs
  induction xs generalizing r with
  | nil => intro ys; simp [bitesFrom]
  | cons x xs ih =>
    intro ys
    rw [List.cons_append, bitesFrom, bitesFrom, ih, List.append_assoc, List.length_cons, Nat.add_assoc, Nat.add_comm 1 xs.length]
theorem take_more {α : Type} {l : List α} {i : Nat} {x : α} (h : l[i]? = some x) : l.take (i + 1) = l.take i ++ [x] := by
  rw [List.take_add_one, h]; rfl
theorem bitesL_more {b : List Int} {i : Nat} {x : Int} (h : b[i]? = some x) : bitesL (b.take (i + 1)) = bitesL (b.take i) ++ rowL i x.toNat := by
  have hi : i < b.length := (List.getElem?_eq_some_iff.mp h).1
  unfold bitesL
  rw [take_more h, bitesFrom_append, List.length_take, Nat.min_eq_left (Nat.le_of_lt hi), Nat.zero_add]
  simp [bitesFrom]
theorem rowL_len (r n : Nat) : (rowL r n).length ≤ n := by
  induction n with
  | zero => simp [rowL]
  | succ n ih => rw [rowL, List.length_append]; split <;> simp <;> omega
theorem mem_rowL {r n : Nat} {p : Nat × Nat} : p ∈ rowL r n ↔ p.1 = r ∧ p.2 < n ∧ 0 < r + p.2 := by
  induction n with
  | zero => simp [rowL]
  | succ n ih =>
    rw [rowL, List.mem_append, ih]
    obtain ⟨a, c⟩ := p
    constructor
    · rintro (⟨h1, h2, h3⟩ | h)
      · exact ⟨h1, by omega, h3⟩
      · split at h
        · simp at h; obtain ⟨h1, h2⟩ := h; subst h1 h2; exact ⟨rfl, by simp, by assumption⟩
        · cases h
    · rintro ⟨h1, h2, h3⟩
      simp only at h1 h2 h3
      subst h1
      by_cases e : c = n
      · subst e; right; rw [if_pos h3]; simp
      · left; exact ⟨rfl, by simp only; omega, h3⟩
theorem mem_bitesFrom {r : Nat} {b : List Int} {p : Nat × Nat} : p ∈ bitesFrom r b ↔ ∃ i x, b[i]? = some x ∧ p.1 = r + i ∧ (p.2 : Int) < x ∧ 0 < p.1 + p.2 := by
  induction b generalizing r with
  | nil => simp [bitesFrom]
  | cons y ys ih =>
    rw [bitesFrom, List.mem_append, mem_rowL, ih]
    constructor
    · rintro (⟨h1, h2, h3⟩ | ⟨i, x, h1, h2, h3, h4⟩)
      · exact ⟨0, y, rfl, by omega, by omega, by omega⟩
      · exact ⟨i + 1, x, by simpa using h1, by omega, h3, h4⟩
    · rintro ⟨i, x, h1, h2, h3, h4⟩
      cases i with
      | zero =>
        left
        have e : y = x := by simpa using h1
        subst e
        exact ⟨by omega, by omega, by omega⟩
      | succ i =>
        right
        exact ⟨i, x, by simpa using h1, by omega, h3, h4⟩
theorem mem_bitesL {b : List Int} {p : Nat × Nat} : p ∈ bitesL b ↔ ∃ x, b[p.1]? = some x ∧ (p.2 : Int) < x ∧ 0 < p.1 + p.2 := by
  unfold bitesL
  rw [mem_bitesFrom]
  constructor
  · rintro ⟨i, x, h1, h2, h3, h4⟩
    have e : p.1 = i := by omega
    subst e
    exact ⟨x, h1, h3, h4⟩
  · rintro ⟨x, h1, h2, h3⟩
    exact ⟨p.1, x, h1, by omega, h2, h3⟩
theorem bitesFrom_len (r : Nat) : ∀ (b : List Int), (∀ x ∈ b, x ≤ 5) → (bitesFrom r b).length ≤ 5 * b.length := by
  intro b
  induction b generalizing r with
  | nil => intro _; simp [bitesFrom]
  | cons x xs ih =>
    intro h
    have h1 := rowL_len r x.toNat
    have h2 := ih (r + 1) fun y hy => h y (List.mem_cons_of_mem _ hy)
    have h3 := h x List.mem_cons_self
    rw [bitesFrom, List.length_append, List.length_cons]
    omega
theorem bitesL_len {b : List Int} (h : IsBar 5 b) : (bitesL b).length ≤ 25 := by
  have := bitesFrom_len 0 b fun x hx => (h.rg x hx).2
  have := h.le
  unfold bitesL
  omega
theorem bitesL_take_len {b : List Int} (h : IsBar 5 b) (i : Nat) : (bitesL (b.take i)).length ≤ 25 := by
  have := bitesFrom_len 0 (b.take i) fun x hx => (h.rg x (List.mem_of_mem_take hx)).2
  have := h.le
  have : (b.take i).length ≤ b.length := by rw [List.length_take]; omega
  unfold bitesL
  omega
/-- the bar behind a bite -/
def behindL (b : List Int) (r c : Nat) : List Int := b.take r ++ if 0 < c then (b.drop r).map fun x => min x (c : Int) else []
/-! ### heaps -/
theorem sNew {H : Hp} {p : Addr} {o : HO} (h : H p = none) : Same H (upd H p o) := fun b x e => by
  rw [upd_ne (ne_of_none e h)]
  exact e
theorem sThen {H0 H : Hp} {p : Addr} {o : HO} (s : Same H0 H) (h : H p = none) : Same H0 (upd H p o) := s.trans (sNew h)
/-- an object that was not there at the start is written -/
theorem sPut {H0 H : Hp} {p : Addr} {o : HO} (s : Same H0 H) (h : H0 p = none) : Same H0 (upd H p o) := fun b x e => by
  rw [upd_ne (ne_of_none e h)]
  exact s b x e
/-- the tuples stay -/
def KT (H H' : Hp) : Prop := ∀ t xs, H t = some (.tup xs) → H' t = some (.tup xs)
theorem KT.refl (H : Hp) : KT H H := fun _ _ h => h
theorem KT.trans {H H1 H2 : Hp} (a : KT H H1) (b : KT H1 H2) : KT H H2 := fun t xs h => b t xs (a t xs h)
theorem KT.same {H H' : Hp} (s : Same H H') : KT H H' := fun t xs h => s _ _ h
theorem KT.new {H : Hp} {p : Addr} {o : HO} (h : H p = none) : KT H (upd H p o) := KT.same (sNew h)
theorem KT.lst {H : Hp} {p : Addr} {o : HO} {xs : List V} (h : H p = some (.lst xs)) : KT H (upd H p o) := fun t ys e => by
  rw [upd_ne (ne_of e h (by intro q; cases q))]
  exact e
theorem KT.dK {H : Hp} {p : Addr} {o : HO} {xs : List (Key × V)} (h : H p = some (.dK xs)) : KT H (upd H p o) := fun t ys e => by
  rw [upd_ne (ne_of e h (by intro q; cases q))]
  exact e
theorem KT.dT {H : Hp} {p : Addr} {o : HO} {xs : List (List Key × V)} (h : H p = some (.dT xs)) : KT H (upd H p o) := fun t ys e => by
  rw [upd_ne (ne_of e h (by intro q; cases q))]
  exact e
/-- a list of tuples of ints -/
abbrev TL (H : Hp) (xs : List V) (ds : List (List Int)) : Prop := Paired (fun (x : V) (d : List Int) => ∃ t, x = .ref t ∧ H t = some (.tup (d.map V.int))) xs ds
theorem TL.keep {H H' : Hp} (k : KT H H') {xs : List V} {ds : List (List Int)} (h : TL H xs ds) : TL H' xs ds :=
  Paired.mapP h fun _ _ ⟨t, e, z⟩ => ⟨t, e, k _ _ z⟩
theorem TL.nil {H : Hp} : TL H [] [] := Paired.nil
theorem TL.length {H : Hp} {xs : List V} {ds : List (List Int)} (h : TL H xs ds) : xs.length = ds.length := Paired.length h
theorem TL.append {H : Hp} {xs ys : List V} {ds es : List (List Int)} (h : TL H xs ds) (h' : TL H ys es) : TL H (xs ++ ys) (ds ++ es) := by
  induction h with
  | nil => exact h'
  | cons r _ ih => exact Paired.cons r ih
theorem TL.snoc {H : Hp} {xs : List V} {ds : List (List Int)} {t : Addr} {d : List Int} (h : TL H xs ds) (e : H t = some (.tup (d.map V.int))) : TL H (xs ++ [.ref t]) (ds ++ [d]) :=
  h.append (Paired.cons ⟨t, rfl, e⟩ Paired.nil)
theorem TL.get {H : Hp} : ∀ {xs : List V} {ds : List (List Int)} {i : Nat} {d : List Int}, TL H xs ds → ds[i]? = some d → ∃ t, xs[i]? = some (.ref t) ∧ H t = some (.tup (d.map V.int))
  | _, _, i, d, Paired.nil, e => by simp at e
  | _, _, 0, d, Paired.cons ⟨t, h1, h2⟩ _, e => by
    obtain rfl := Option.some.inj e
    exact ⟨t, by rw [h1]; rfl, h2⟩
  | _, _, i + 1, d, Paired.cons _ r, e => by
    obtain ⟨t, h1, h2⟩ := TL.get (i := i) r (by simpa using e)
    exact ⟨t, by simpa using h1, h2⟩
/-- a bite's place -/
def pr (p : Nat × Nat) : List Int := [(p.1 : Int), (p.2 : Int)]
theorem small {n : Nat} (h : n ≤ 100000) : n ≤ sizeLine := Nat.le_trans h (by rw [sizeLine_eq]; decide)
theorem small' {n : Nat} (h : n ≤ 100000) : n < sizeLine := Nat.lt_of_le_of_lt h (by rw [sizeLine_eq]; decide)
theorem map_get {ns : List Int} {i : Nat} {y : V} (h : (ns.map V.int)[i]? = some y) : ∃ z, ns[i]? = some z ∧ y = V.int z := by
  rw [List.getElem?_map] at h
  cases e : ns[i]? with
  | none => rw [e] at h; cases h
  | some z => rw [e] at h; exact ⟨z, rfl, (Option.some.inj h).symm⟩
theorem get_map {ns : List Int} {i : Nat} {z : Int} (h : ns[i]? = some z) : (ns.map V.int)[i]? = some (V.int z) := by
  rw [List.getElem?_map, h]; rfl
theorem at_map {ns : List Int} {i : Nat} {z : Int} (h : ns[i]? = some z) : atI (ns.map V.int) (i : Int) = some (V.int z) := atI_nat (get_map h)
theorem in62 {n : Nat} (h : n ≤ 100000) : -(2 ^ 62) ≤ (n : Int) ∧ (n : Int) < 2 ^ 62 := by
  constructor <;> omega
/-! ### calls -/
structure Cal (P : Program) (w : World) (K : PySem.W.Frag) (mg : Str → Option Value) (base : Heap) (CX : CXT) (k : Nat) (x : Str) (ps : List Str) (sp : Sp) : Prop where
  ex : ∃ (f : Addr) (fd : FuncData), FnOk P w K mg base CX k f fd ps sp ∧ mg x = some (.ref f) ∧ PySem.W.keepIn K (.ref f) = true ∧ Binds K fd ps []
theorem pe_c {X : Cx} {CX : CXT} {k j : Nat} {x : Str} {ps : List Str} {sp : Sp} {E : XK} {e : Expr} {es : List Expr} {t : TA} {p pos : Pos} (C : Cal X.prog X.w X.K X.mg X.base CX k x ps sp) (hr : Room j X.A) (hj : k ≤ j) (hx : Passes CX X E) (ha : PA X (e :: es) t)
    (hg : Gl X x := by rfl) (hdb : (x == ("__debug__" : Str)) = false := by decide) (he : starEach (e :: es) X.env = (false, eval e X.env) :: starEach es X.env := by rfl) (hpl : (backTo pos (starEach es X.env)).any (·.1) = false := by rfl) :
    PE X (.Call (.Name x p) (e :: es) [] pos) (tCall sp [] E t) := by
  obtain ⟨f, fd, F, gm, kp, bd⟩ := C.ex
  exact pe_call F (hr.mono hj) hg gm kp bd .nil hx ha hdb he hpl
/-- a comprehension without a test -/
theorem yesT {σ : L2.St} {H : Hp} {A B : Hp → Prop} (h : A H) : tYes σ H (fun b H' => if b = true then A H' else B H') := by
  show if true = true then A H else B H
  rw [if_pos rfl]
  exact h
/-! ### tests whose answer is known -/
theorem dT_ {p : Prop} [Decidable p] {A B : Prop} (h : p) (x : A) : if decide p = true then A else B := by
  rw [if_pos (decide_eq_true h)]
  exact x
theorem dF_ {p : Prop} [Decidable p] {A B : Prop} (h : ¬ p) (x : B) : if decide p = true then A else B := by
  rw [if_neg (by rw [decide_eq_false h]; exact Bool.false_ne_true)]
  exact x
theorem nT_ {p : Prop} [Decidable p] {A B : Prop} (h : ¬ p) (x : A) : if (!decide p) = true then A else B := by
  rw [if_pos (by rw [decide_eq_false h]; rfl)]
  exact x
theorem nF_ {p : Prop} [Decidable p] {A B : Prop} (h : p) (x : B) : if (!decide p) = true then A else B := by
  rw [if_neg (by rw [decide_eq_true h]; exact Bool.false_ne_true)]
  exact x
/-- ways by a test -/
theorem d2_ {p : Prop} [Decidable p] {A B : Prop} (x : p → A) (y : ¬ p → B) : if decide p = true then A else B := by
  by_cases h : p
  · exact dT_ h (x h)
  · exact dF_ h (y h)
theorem n2_ {p : Prop} [Decidable p] {A B : Prop} (x : ¬ p → A) (y : p → B) : if (!decide p) = true then A else B := by
  by_cases h : p
  · exact nF_ h (y h)
  · exact nT_ h (x h)
theorem int_eq {i j : Int} (h : V.int i = V.int j) : i = j := V.int.inj h
/-! ### data: lists and tuples of ints, lists of these -/
abbrev dI (ns : List Int) : List PyData := ns.map PyData.int
abbrev dT (ds : List (List Int)) : List PyData := ds.map fun d => PyData.tuple (dI d)
abbrev dL (ds : List (List Int)) : List PyData := ds.map fun d => PyData.list (dI d)
theorem dp_ints {K : PySem.W.Frag} {H : Hp} : ∀ ns : List Int, DpAll K H (ns.map V.int) (dI ns)
  | [] => .nil
  | x :: xs => .cons (.int x) (dp_ints xs)
theorem dp_tups {K : PySem.W.Frag} {H : Hp} : ∀ {xs : List V} {ds : List (List Int)}, TL H xs ds → DpAll K H xs (dT ds)
  | _, _, Paired.nil => .nil
  | _, _, Paired.cons ⟨t, e, h⟩ r => by
    subst e
    exact .cons (.tup (SqT.of h) (dp_ints _)) (dp_tups r)
theorem lay_ints : ∀ ns : List Int, PyData.canLayAll0 (dI ns) = true ∧ PyData.depthAll (dI ns) = 0
  | [] => ⟨by simp [PyData.canLayAll0], by simp [PyData.depthAll]⟩
  | x :: xs => by
    obtain ⟨h1, h2⟩ := lay_ints xs
    refine ⟨?_, ?_⟩
    · rw [dI, List.map_cons, PyData.canLayAll0, h1, PyData.canLay0]; rfl
    · rw [dI, List.map_cons, PyData.depthAll, h2, PyData.depth]; rfl
theorem shaped_list (ns : List Int) : SeqAt.shaped (.list (dI ns)) = true := by
  obtain ⟨h1, h2⟩ := lay_ints ns
  unfold SeqAt.shaped
  rw [PyData.canLay0, h1, PyData.depth, h2]
  rfl
theorem shaped_tup (ns : List Int) : SeqAt.shaped (.tuple (dI ns)) = true := by
  obtain ⟨h1, h2⟩ := lay_ints ns
  unfold SeqAt.shaped
  rw [PyData.canLay0, h1, PyData.depth, h2]
  rfl
theorem lay_tups : ∀ ds : List (List Int), PyData.canLayAll0 (dT ds) = true ∧ PyData.depthAll (dT ds) ≤ 1
  | [] => ⟨by simp [PyData.canLayAll0], by simp [PyData.depthAll]⟩
  | x :: xs => by
    obtain ⟨h1, h2⟩ := lay_tups xs
    obtain ⟨h3, h4⟩ := lay_ints x
    refine ⟨?_, ?_⟩
    · rw [dT, List.map_cons, PyData.canLayAll0, h1, PyData.canLay0, h3]; rfl
    · rw [dT, List.map_cons, PyData.depthAll, PyData.depth, h4]
      exact Nat.max_le.mpr ⟨Nat.le_refl _, h2⟩
theorem lay_lsts : ∀ ds : List (List Int), PyData.canLayAll0 (dL ds) = true ∧ PyData.depthAll (dL ds) ≤ 1
  | [] => ⟨by simp [PyData.canLayAll0], by simp [PyData.depthAll]⟩
  | x :: xs => by
    obtain ⟨h1, h2⟩ := lay_lsts xs
    obtain ⟨h3, h4⟩ := lay_ints x
    refine ⟨?_, ?_⟩
    · rw [dL, List.map_cons, PyData.canLayAll0, h1, PyData.canLay0, h3]; rfl
    · rw [dL, List.map_cons, PyData.depthAll, PyData.depth, h4]
      exact Nat.max_le.mpr ⟨Nat.le_refl _, h2⟩
theorem shaped_tups (ds : List (List Int)) : SeqAt.shaped (.list (dT ds)) = true := by
  obtain ⟨h1, h2⟩ := lay_tups ds
  unfold SeqAt.shaped
  rw [PyData.canLay0, h1, PyData.depth, Bool.true_and]
  exact decide_eq_true (by omega)
theorem shaped_lsts (ds : List (List Int)) : SeqAt.shaped (.list (dL ds)) = true := by
  obtain ⟨h1, h2⟩ := lay_lsts ds
  unfold SeqAt.shaped
  rw [PyData.canLay0, h1, PyData.depth, Bool.true_and]
  exact decide_eq_true (by omega)
theorem eqv_ints : ∀ ns ms : List Int, PyData.eqvAll (dI ns) (dI ms) = decide (ns = ms)
  | [], [] => by simp [dI, PyData.eqvAll]
  | [], _ :: _ => by simp [dI, PyData.eqvAll]
  | _ :: _, [] => by simp [dI, PyData.eqvAll]
  | x :: xs, y :: ys => by
    show PyData.eqvAll (PyData.int x :: dI xs) (PyData.int y :: dI ys) = _
    rw [PyData.eqvAll, eqv_ints xs ys, PyData.eqv, Bool.beq_eq_decide_eq]
    by_cases e : x = y
    · subst e; by_cases e2 : xs = ys <;> simp [e2]
    · simp [e]
theorem eqv_list (ns ms : List Int) : PyData.eqv (.list (dI ns)) (.list (dI ms)) = decide (ns = ms) := by rw [PyData.eqv, eqv_ints]
theorem eqv_tup (ns ms : List Int) : PyData.eqv (.tuple (dI ns)) (.tuple (dI ms)) = decide (ns = ms) := by rw [PyData.eqv, eqv_ints]
theorem eqv_lists : ∀ ns ms : List (List Int), PyData.eqvAll (dL ns) (dL ms) = decide (ns = ms)
  | [], [] => by simp [dL, PyData.eqvAll]
  | [], _ :: _ => by simp [dL, PyData.eqvAll]
  | _ :: _, [] => by simp [dL, PyData.eqvAll]
  | x :: xs, y :: ys => by
    show PyData.eqvAll (PyData.list (dI x) :: dL xs) (PyData.list (dI y) :: dL ys) = _
    rw [PyData.eqvAll, eqv_lists xs ys, eqv_list]
    by_cases e : x = y
    · subst e; by_cases e2 : xs = ys <;> simp [e2]
    · simp [e]
theorem dp_list {K : PySem.W.Frag} {H : Hp} {a : Addr} {ns : List Int} (h : SqL K H a (ns.map V.int)) : Dp K H (.ref a) (.list (dI ns)) := .lst h (dp_ints ns)
theorem dp_tup {K : PySem.W.Frag} {H : Hp} {a : Addr} {ns : List Int} (h : H a = some (.tup (ns.map V.int))) : Dp K H (.ref a) (.tuple (dI ns)) := .tup (SqT.of h) (dp_ints ns)
theorem dp_tl {K : PySem.W.Frag} {H : Hp} {a : Addr} {xs : List V} {ds : List (List Int)} (h : SqL K H a xs) (t : TL H xs ds) : Dp K H (.ref a) (.list (dT ds)) := .lst h (dp_tups t)
/-! ### the rules that speak of the written part, with its name -/
section
variable {X : Cx} {K : PySem.W.Frag}
theorem lenK (hK : X.K = K := by rfl) : CallR X (.builtin "len") (fun xs H Q => ∃ p ys, xs = [.ref p] ∧ (SqL K H p ys ∨ SqT K H p ys) ∧ Q (.int ys.length) H) := by subst hK; exact call_len_seq
theorem ixK (hK : X.K = K := by rfl) : IxR X (rIxL K) := by subst hK; exact ix_list
theorem ixTK (hK : X.K = K := by rfl) : IxR X (rIxT K) := by subst hK; exact ix_tup
theorem slK (hK : X.K = K := by rfl) : SlR X (rSlL K) := by subst hK; exact sl_list
theorem isiK (hK : X.K = K := by rfl) : CallR X (.builtin "isinstance") (rIsi K) := by subst hK; exact call_isi
theorem eqDK (hu : X.A.units + 64 < cLine) (hK : X.K = K := by rfl) : OpR X (compareOp .Eq) (rEqD K) := by subst hK; exact op_eqD hu
theorem neDK (hu : X.A.units + 64 < cLine) (hK : X.K = K := by rfl) : OpR X (compareOp .NotEq) (rNeD K) := by subst hK; exact op_neD hu
theorem inDK (hu : X.A.units + 65 < cLine) (hK : X.K = K := by rfl) : OpR X (compareOp .In) (rInD K) := by subst hK; exact op_inD hu
theorem notInDK (hu : X.A.units + 65 < cLine) (hK : X.K = K := by rfl) : OpR X (compareOp .NotIn) (rNotInD K) := by subst hK; exact op_notInD hu
theorem inSK (hK : X.K = K := by rfl) : OpR X (compareOp .In) (rIn K false) := by subst hK; exact op_in_seq
theorem notInSK (hK : X.K = K := by rfl) : OpR X (compareOp .NotIn) (rIn K true) := by subst hK; exact op_notIn_seq
theorem listK (hK : X.K = K := by rfl) : CallR X (.type "list") (fun xs H Q => ∃ p ys, xs = [.ref p] ∧ (SqL K H p ys ∨ SqT K H p ys) ∧ ∀ l, H l = none → Q (.ref l) (upd H l (.lst ys))) := by subst hK; exact call_list_of
theorem tupleK (hK : X.K = K := by rfl) : CallR X (.type "tuple") (fun xs H Q => ∃ p ys, xs = [.ref p] ∧ ((SqL K H p ys ∧ ∀ l, H l = none → Q (.ref l) (upd H l (.tup ys))) ∨ (SqT K H p ys ∧ Q (.ref p) H))) := by subst hK; exact call_tuple_of
theorem maxK (hc : X.calm = true) (hK : X.K = K := by rfl) : CallR X (.builtin "max") (rMax K) := by subst hK; exact cr_max hc
theorem indexK (hK : X.K = K := by rfl) : MtR X "list.index" (rIndex K) := by subst hK; exact mt_index
theorem sortedRevK (hK : X.K = K := by rfl) : CallRK X (.builtin "sorted") [Str.ofString "reverse"] (rSortedKw K true [.bl true]) := by subst hK; exact cr_sortedRev (b := true)
theorem pi_listK {tg l : Expr} {tl : TE} (hl : PE X l tl) (hK : X.K = K := by rfl) : PI X tg l (iList K tl) := by subst hK; exact pi_list hl
theorem pi_tupK {tg l : Expr} {tl : TE} (hl : PE X l tl) (hK : X.K = K := by rfl) : PI X tg l (iTup K tl) := by subst hK; exact pi_tup hl
theorem pi_enumK {e : Expr} {ta : TA} {p pos tpos : Pos} {elts : List Expr} {kk : Nat} (hg : Gl X "enumerate") (hm : X.mg "enumerate" = none) (ha : PA X [e] ta) (hs : starEach [e] X.env = [(false, eval e X.env)] := by rfl) (hK : X.K = K := by rfl) :
    PI X (.Tuple elts kk tpos) (.Call (.Name "enumerate" p) [e] [] pos) (iEnum K ta) := by subst hK; exact pi_enum hg hm ha hs
theorem pg_tupK {es : List Expr} {k : Nat} {t : TGs} {n : Nat} {pos : Pos} (hc : X.calm = true) (h : PGs X es t) (hn : (assignEach es X.env).length = n := by rfl) (hst : (assignEach es X.env).findIdx? (·.1) = none := by rfl) (hK : X.K = K := by rfl) :
    PG X (.Tuple es k pos) (gTup K n t) := by subst hK; exact pg_tup hc h hn hst
theorem pe_bmK {o e : Expr} {es : List Expr} {to : TE} {t : TA} {name : Str} {apos cpos : Pos} {T id : String} {r : V → List V → Hp → VK → Prop} (pa : PlainAttrs T) (slot : Slot T name id) (hty : typeOf (.builtin id) = pure (.type "method_descriptor")) (hm : MtR X id r) (ho : PE X o to) (ha : PA X (e :: es) t)
    (hbase : attributeBase o name X.env (eval o X.env) = eval o X.env := by rfl)
    (hfew : ((backTo cpos (starEach (e :: es) X.env)).all (fun x => !x.1) && (backToKw cpos (keywordEach [] X.env)).all (fun x => x.1.isSome)
      && decide ((e :: es).length + ([] : List Keyword).length + (if ([] : List Keyword).isEmpty then 0 else 1) < 30)) = true := by rfl)
    (hline : (apos.endLine == cpos.line) = true := by rfl) (hs : starEach (e :: es) X.env = (false, eval e X.env) :: starEach es X.env := by rfl) (hplain : (backTo cpos (starEach es X.env)).any (·.1) = false := by rfl) (hK : X.K = K := by rfl) : PE X (.Call (.Attribute o name apos) (e :: es) [] cpos) (tBM K T r to t) := by subst hK; exact pe_bm pa slot hty hm ho ha hbase hfew hline hs hplain
end
theorem hu65 {k : Nat} {A : Around} (hr : Room k A) : A.units + 65 < cLine := by
  have := hr.un
  omega
/-- the law's promise -/
def sp_law (K : PySem.W.Frag) : Sp := fun vs H Q _ => ∃ (a : Addr) (ns : List Int), vs = [.ref a] ∧ SqL K H a (ns.map V.int) ∧ ns.length ≤ 63 ∧ ∀ H', Q (.bl true) H'
/-! ### all bars -/
def allFrom : Nat → Nat → List (List Int)
  | 0, _ => [[]]
  | n + 1, m => [] :: (List.range m).flatMap fun i => (allFrom n (i + 1)).map fun t => ((i + 1 : Nat) : Int) :: t
theorem mem_allFrom : ∀ (n : Nat) (m : Nat) (b : List Int), falls (m : Int) b = true → b.length ≤ n → b ∈ allFrom n m
  | 0, m, b, _, h => by
    have : b = [] := List.length_eq_zero_iff.mp (by omega)
    subst this
    simp [allFrom]
  | n + 1, m, [], _, _ => by simp [allFrom]
  | n + 1, m, x :: xs, hf, hl => by
    rw [falls, Bool.and_eq_true, decide_eq_true_eq] at hf
    obtain ⟨⟨h1, h2⟩, h3⟩ := hf
    have e : x = (((x - 1).toNat + 1 : Nat) : Int) := by omega
    rw [allFrom]
    refine List.mem_cons_of_mem _ (List.mem_flatMap.mpr ⟨(x - 1).toNat, List.mem_range.mpr (by omega), List.mem_map.mpr ⟨xs, ?_, by rw [← e]⟩⟩)
    refine mem_allFrom n _ xs (by rw [← e]; exact h3) ?_
    rw [List.length_cons] at hl
    omega
/-- what a table of all bars shows -/
theorem all_bars {P : List Int → Bool} (h : (allFrom 5 5).all (fun b => b.isEmpty || P b) = true) {b : List Int} (hb : IsBar 5 b) : P b = true := by
  have h1 := isBarB_iff.mpr hb
  unfold isBarB at h1
  rw [Bool.and_eq_true, decide_eq_true_eq] at h1
  have h2 := List.all_eq_true.mp h b (mem_allFrom 5 5 b h1.2 h1.1.2)
  have h3 : b.isEmpty = false := by
    cases b with
    | nil => exact absurd h1.1.1 (by decide)
    | cons x xs => rfl
  rw [h3, Bool.false_or] at h2
  exact h2
/-! ### bars turned -/
/-- how many rows reach column c -/
def cnt (b : List Int) (c : Nat) : Nat := (b.filter fun x => decide ((c : Int) < x)).length
def turnedL (b : List Int) : List Int := (List.range (b.headD 0).toNat).map fun c => (cnt b c : Int)
theorem turned_twice {b : List Int} (hb : IsBar 5 b) : IsBar 5 (turnedL b) ∧ turnedL (turnedL b) = b := by
  have h := all_bars (P := fun b => isBarB (turnedL b) && decide (turnedL (turnedL b) = b)) (by decide +kernel) hb
  rw [Bool.and_eq_true, decide_eq_true_eq] at h
  exact ⟨isBarB_iff.mp h.1, h.2⟩
theorem cnt_le (b : List Int) (c : Nat) : cnt b c ≤ b.length := List.length_filter_le _ _
theorem filter_more {ns : List Int} {i : Nat} {z : Int} (p : Int → Bool) (h : ns[i]? = some z) : (ns.take (i + 1)).filter p = (ns.take i).filter p ++ if p z then [z] else [] := by
  rw [take_more h, List.filter_append]
  cases e : p z <;> simp [e]
theorem head_is {b : List Int} (hb : IsBar 5 b) : ∃ z, b[0]? = some z ∧ b.headD 0 = z ∧ 1 ≤ z ∧ z ≤ 5 := by
  cases b with
  | nil => exact absurd hb.ne (by decide)
  | cons x xs => exact ⟨x, rfl, rfl, hb.rg x List.mem_cons_self⟩
theorem max_is {b : List Int} (hb : IsBar 5 b) {m : Int} (h1 : m ∈ b) (h2 : ∀ y ∈ b, y ≤ m) : m = b.headD 0 := by
  cases b with
  | nil => exact absurd hb.ne (by decide)
  | cons x xs =>
    show m = x
    have h3 := h2 x List.mem_cons_self
    rcases List.mem_cons.mp h1 with h | h
    · exact h
    · have := (List.pairwise_cons.mp hb.pw).1 m h
      omega
/-! ### worths -/
def mexFrom (l : List Nat) : Nat → Nat → Nat
  | 0, m => m
  | k + 1, m => if m ∈ l then mexFrom l k (m + 1) else m
/-- the least number that is not in l -/
def mex (l : List Nat) : Nat := mexFrom l (l.sum + 1) 0
theorem le_sum_of_mem : ∀ {l : List Nat} {x : Nat}, x ∈ l → x ≤ l.sum
  | [], x, h => nomatch h
  | a :: l, x, h => by
    rw [List.sum_cons]
    rcases List.mem_cons.mp h with rfl | h
    · omega
    · have := le_sum_of_mem h
      omega
theorem mexFrom_spec (l : List Nat) : ∀ (k m : Nat), l.sum < m + k → (∀ j, j < m → j ∈ l) → mexFrom l k m ∉ l ∧ ∀ j, j < mexFrom l k m → j ∈ l
  | 0, m, h, hb => ⟨fun hm => by have := le_sum_of_mem (show m ∈ l from hm); omega, hb⟩
  | k + 1, m, h, hb => by
    rw [mexFrom]
    by_cases e : m ∈ l
    · rw [if_pos e]
      refine mexFrom_spec l k (m + 1) (by omega) fun j hj => ?_
      rcases Nat.lt_succ_iff_lt_or_eq.mp hj with hj | rfl
      · exact hb j hj
      · exact e
    · rw [if_neg e]
      exact ⟨e, hb⟩
theorem mex_spec (l : List Nat) : mex l ∉ l ∧ ∀ j, j < mex l → j ∈ l := mexFrom_spec l _ 0 (by omega) fun j hj => absurd hj (Nat.not_lt_zero j)
theorem mex_is {l : List Nat} {m : Nat} (h1 : m ∉ l) (h2 : ∀ j, j < m → j ∈ l) : mex l = m := by
  obtain ⟨k1, k2⟩ := mex_spec l
  rcases Nat.lt_trichotomy (mex l) m with h | h | h
  · exact absurd (h2 _ h) k1
  · exact h
  · exact absurd (k2 _ h) h1
theorem mex_congr {l l' : List Nat} (h : ∀ x, x ∈ l ↔ x ∈ l') : mex l = mex l' := mex_is (fun q => (mex_spec l').1 ((h _).mp q)) fun j hj => (h j).mpr ((mex_spec l').2 j hj)
/-- how many pieces a bar has -/
def pieces (b : List Int) : Nat := (b.map Int.toNat).sum
theorem pieces_append (a b : List Int) : pieces (a ++ b) = pieces a + pieces b := by
  unfold pieces
  rw [List.map_append, List.sum_append]
theorem pieces_cut (c : Nat) : ∀ b : List Int, pieces (b.map fun x => min x (c : Int)) ≤ pieces b
  | [] => Nat.le_refl _
  | x :: xs => by
    have := pieces_cut c xs
    unfold pieces at *
    rw [List.map_cons, List.map_cons, List.sum_cons, List.map_cons, List.sum_cons]
    omega
theorem pieces_less {b : List Int} {p : Nat × Nat} (h : p ∈ bitesL b) : pieces (behindL b p.1 p.2) < pieces b := by
  obtain ⟨x, hx, hc, _⟩ := mem_bitesL.mp h
  obtain ⟨hi, e⟩ := List.getElem?_eq_some_iff.mp hx
  have hd : b.drop p.1 = x :: b.drop (p.1 + 1) := by rw [List.drop_eq_getElem_cons hi, e]
  have hb : pieces b = pieces (b.take p.1) + pieces (b.drop p.1) := by rw [← pieces_append, List.take_append_drop]
  unfold behindL
  rw [pieces_append, hb]
  have hcut := pieces_cut p.2 (b.drop (p.1 + 1))
  have hl : pieces (if 0 < p.2 then (b.drop p.1).map fun x => min x (p.2 : Int) else []) < pieces (b.drop p.1) := by
    rw [hd]
    by_cases z : 0 < p.2
    · rw [if_pos z]
      unfold pieces at *
      rw [List.map_cons, List.map_cons, List.sum_cons, List.map_cons, List.sum_cons]
      omega
    · rw [if_neg z]
      unfold pieces
      rw [List.map_cons, List.sum_cons, List.map_nil, List.sum_nil]
      omega
  omega
theorem isBar_behind {m : Int} {b : List Int} (hb : IsBar m b) {p : Nat × Nat} (h : p ∈ bitesL b) : IsBar m (behindL b p.1 p.2) := by
  obtain ⟨x, hx, hc, hp⟩ := mem_bitesL.mp h
  obtain ⟨hi, e⟩ := List.getElem?_eq_some_iff.mp hx
  have hsub : ∀ y ∈ b.drop p.1, y ∈ b := fun y hy => List.mem_of_mem_drop hy
  have pw := hb.pw
  have ln : (behindL b p.1 p.2).length ≤ b.length ∧ 1 ≤ (behindL b p.1 p.2).length := by
    unfold behindL
    rw [List.length_append, List.length_take]
    by_cases z : 0 < p.2
    · rw [if_pos z, List.length_map, List.length_drop]
      omega
    · rw [if_neg z, List.length_nil]
      omega
  refine ⟨ln.2, Int.le_trans (Int.ofNat_le.mpr ln.1) hb.le, ?_, fun y hy => ?_⟩
  · unfold behindL
    refine List.pairwise_append.mpr ⟨pw.sublist (List.take_sublist _ _), ?_, ?_⟩
    · by_cases z : 0 < p.2
      · rw [if_pos z]
        refine List.pairwise_map.mpr ((pw.sublist (List.drop_sublist _ _)).imp fun {a c} h => ?_)
        show min a (p.2 : Int) ≥ min c (p.2 : Int)
        have h : a ≥ c := h
        omega
      · rw [if_neg z]
        exact List.Pairwise.nil
    · intro a ha c hc'
      by_cases z : 0 < p.2
      · rw [if_pos z] at hc'
        obtain ⟨y, hy, rfl⟩ := List.mem_map.mp hc'
        have := List.pairwise_append.mp (show (b.take p.1 ++ b.drop p.1).Pairwise (· ≥ ·) by rw [List.take_append_drop]; exact pw)
        have := this.2.2 a ha y hy
        show a ≥ min y (p.2 : Int)
        omega
      · rw [if_neg z] at hc'
        cases hc'
  · unfold behindL at hy
    rcases List.mem_append.mp hy with hy | hy
    · exact hb.rg y (List.mem_of_mem_take hy)
    · by_cases z : 0 < p.2
      · rw [if_pos z] at hy
        obtain ⟨u, hu, rfl⟩ := List.mem_map.mp hy
        have := hb.rg u (hsub u hu)
        omega
      · rw [if_neg z] at hy
        cases hy
theorem pieces_pos {m : Int} {b : List Int} (hb : IsBar m b) : 1 ≤ pieces b := by
  cases b with
  | nil => exact absurd hb.ne (by decide)
  | cons x xs =>
    have := hb.rg x List.mem_cons_self
    unfold pieces
    rw [List.map_cons, List.sum_cons]
    omega
theorem pieces_le : ∀ {b : List Int}, (∀ x ∈ b, x ≤ 5) → pieces b ≤ 5 * b.length
  | [], _ => Nat.zero_le _
  | x :: xs, h => by
    have h1 := pieces_le (b := xs) fun y hy => h y (List.mem_cons_of_mem _ hy)
    have h2 := h x List.mem_cons_self
    unfold pieces at *
    rw [List.map_cons, List.sum_cons, List.length_cons]
    omega
theorem pieces_25 {b : List Int} (hb : IsBar 5 b) : pieces b ≤ 25 := by
  have := pieces_le fun x hx => (hb.rg x hx).2
  have := hb.le
  omega
/-- a bar's worth, n turns deep -/
def wF : Nat → List Int → Nat
  | 0, _ => 0
  | n + 1, b => mex ((bitesL b).map fun p => wF n (behindL b p.1 p.2))
def worthL (b : List Int) : Nat := wF (pieces b) b
theorem bitesFrom_nil (r : Nat) : ∀ {b : List Int}, pieces b = 0 → bitesFrom r b = []
  | [], _ => rfl
  | x :: xs, h => by
    unfold pieces at h
    rw [List.map_cons, List.sum_cons] at h
    have h0 : x.toNat = 0 := by omega
    rw [bitesFrom, h0, rowL, List.nil_append]
    refine bitesFrom_nil (r + 1) ?_
    unfold pieces
    omega
theorem bitesL_nil {b : List Int} (h : pieces b = 0) : bitesL b = [] := bitesFrom_nil 0 h
theorem wF_any : ∀ (n : Nat) (b : List Int), pieces b ≤ n → wF n b = worthL b
  | 0, b, h => by
    have e : pieces b = 0 := by omega
    unfold worthL
    rw [e]
  | n + 1, b, h => by
    by_cases e : pieces b = 0
    · have h0 : worthL b = 0 := by
        unfold worthL
        rw [e]
        rfl
      rw [h0, wF, bitesL_nil e]
      rfl
    · obtain ⟨k, hk⟩ : ∃ k, pieces b = k + 1 := ⟨pieces b - 1, by omega⟩
      unfold worthL
      rw [hk, wF, wF]
      refine congrArg mex (List.map_congr_left fun p hp => ?_)
      have := pieces_less hp
      rw [wF_any n _ (by omega)]
      exact (wF_any k _ (by omega)).symm
  termination_by n => n
/-- POINT 6 -/
theorem worthL_eq (b : List Int) : worthL b = mex ((bitesL b).map fun p => worthL (behindL b p.1 p.2)) := by
  have h := wF_any (pieces b + 1) b (by omega)
  rw [← h, wF]
  refine congrArg mex (List.map_congr_left fun p hp => ?_)
  have := pieces_less hp
  exact wF_any _ _ (by omega)
theorem behindL_snoc (l : List Int) (x : Int) (r c : Nat) : behindL (l ++ [x]) r c = behindL l r c ++ if l.length < r then [x] else if 0 < c then [min x (c : Int)] else [] := by
  unfold behindL
  by_cases h : l.length < r
  · rw [if_pos h, List.take_of_length_le (by rw [List.length_append]; exact h), List.drop_eq_nil_of_le (by rw [List.length_append]; exact h), List.take_of_length_le (Nat.le_of_lt h), List.drop_eq_nil_of_le (Nat.le_of_lt h)]
    split <;> simp
  · have h' : r ≤ l.length := by omega
    rw [if_neg h, List.take_append_of_le_length h', List.drop_append_of_le_length h']
    split <;> simp
/-! ### lists without doubles -/
theorem length_le_of_sub {α : Type} [DecidableEq α] : ∀ {l m : List α}, l.Nodup → (∀ x ∈ l, x ∈ m) → l.length ≤ m.length
  | [], _, _, _ => Nat.zero_le _
  | x :: l, m, hn, hs => by
    obtain ⟨h1, h2⟩ := List.nodup_cons.mp hn
    have hx := hs x List.mem_cons_self
    have := length_le_of_sub (l := l) (m := m.erase x) h2 fun y hy => (List.mem_erase_of_ne (fun e => h1 (by rw [← e]; exact hy))).mpr (hs y (List.mem_cons_of_mem _ hy))
    have e := List.length_erase_of_mem hx
    have : 1 ≤ m.length := by
      cases m with
      | nil => cases hx
      | cons _ _ => simp
    rw [List.length_cons]
    omega
/-! ### the dict of the worths that are known -/
def keyOf (b : List Int) : List Key := b.map Sum.inl
theorem keyOf_kV (b : List Int) : (keyOf b).map kV = b.map V.int := by
  unfold keyOf
  rw [List.map_map]
  all_goals rfl
theorem keyOf_inj : ∀ {a b : List Int}, keyOf a = keyOf b → a = b
  | [], [], _ => rfl
  | [], _ :: _, h => by cases h
  | _ :: _, [], h => by cases h
  | x :: xs, y :: ys, h => by
    have h : (Sum.inl x : Key) :: keyOf xs = Sum.inl y :: keyOf ys := h
    injection h with h1 h2
    rw [Sum.inl.inj h1, keyOf_inj h2]
structure Known (kvs : List (List Key × V)) : Prop where
  nd : (kvs.map (·.1)).Nodup
  is : ∀ p ∈ kvs, ∃ b : List Int, p.1 = keyOf b ∧ IsBar 5 b ∧ p.2 = .int (worthL b : Nat)
theorem Known.nil : Known [] := ⟨List.nodup_nil, fun _ h => nomatch h⟩
theorem mem_all {b : List Int} (h : IsBar 5 b) : b ∈ allFrom 5 5 := by
  have h1 := isBarB_iff.mpr h
  unfold isBarB at h1
  rw [Bool.and_eq_true, decide_eq_true_eq] at h1
  exact mem_allFrom 5 5 b h1.2 h1.1.2
theorem all_len : (allFrom 5 5).length = 252 := by decide +kernel
theorem Known.len {kvs : List (List Key × V)} (h : Known kvs) : kvs.length ≤ 252 := by
  have q := length_le_of_sub (m := (allFrom 5 5).map keyOf) h.nd fun x hx => by
    obtain ⟨p, hp, rfl⟩ := List.mem_map.mp hx
    obtain ⟨b, e, hb, _⟩ := h.is p hp
    rw [e]
    exact List.mem_map_of_mem (mem_all hb)
  rw [List.length_map, List.length_map, all_len] at q
  exact q
theorem valV_mem {κ : Type} [DecidableEq κ] {kvs : List (κ × V)} {k : κ} {v : V} (h : valV kvs k = some v) : (k, v) ∈ kvs := by
  unfold valV at h
  cases e : kvs.find? fun kv => decide (kv.1 = k) with
  | none =>
    rw [e] at h
    cases h
  | some p =>
    rw [e] at h
    have h1 : p.1 = k := of_decide_eq_true (List.find?_some (p := fun kv : κ × V => decide (kv.1 = k)) e)
    have h2 : p.2 = v := Option.some.inj h
    rw [← h1, ← h2]
    exact List.mem_of_find?_eq_some e
theorem Known.get {kvs : List (List Key × V)} (h : Known kvs) {b : List Int} {v : V} (e : valV kvs (keyOf b) = some v) : v = .int (worthL b : Nat) := by
  obtain ⟨c, h1, _, h2⟩ := h.is _ (valV_mem e)
  have h1 : keyOf b = keyOf c := h1
  have h2 : v = .int (worthL c : Nat) := h2
  rw [keyOf_inj h1]
  exact h2
theorem Known.put {kvs : List (List Key × V)} (h : Known kvs) {b : List Int} (hb : IsBar 5 b) (e : valV kvs (keyOf b) = none) : Known (putK kvs (keyOf b) (.int (worthL b : Nat))) := by
  refine ⟨nd_putK _ h.nd e, fun p hp => ?_⟩
  rw [putK_new _ e] at hp
  rcases List.mem_append.mp hp with hp | hp
  · exact h.is p hp
  · have := List.mem_singleton.mp hp
    subst this
    exact ⟨b, rfl, hb, rfl⟩
theorem Known.again {kvs : List (List Key × V)} (h : Known kvs) {b : List Int} {v : V} (e : valV kvs (keyOf b) = some v) : Known (putK kvs (keyOf b) (.int (worthL b : Nat))) := by
  have hm : (kvs.any fun kv => decide (kv.1 = keyOf b)) = true := by
    rw [valV_any, e]
    rfl
  unfold putK
  rw [if_pos hm]
  have e1 : (kvs.map fun kv => if kv.1 = keyOf b then (kv.1, V.int (worthL b : Nat)) else kv) = kvs := by
    refine (List.map_congr_left fun p hp => ?_).trans (List.map_id _)
    by_cases z : p.1 = keyOf b
    · rw [if_pos z]
      obtain ⟨c, h1, _, h2⟩ := h.is p hp
      have := keyOf_inj (z.symm.trans h1)
      subst this
      rw [← h2]
      all_goals rfl
    · rw [if_neg z]
      all_goals rfl
  rw [e1]
  exact h
/-! ### the dict of the worths that are seen -/
structure Seen (kvs : List (Key × V)) (l : List Nat) : Prop where
  len : kvs.length ≤ l.length
  is : ∀ m : Nat, (valV kvs (.inl (m : Int))).isSome = decide (m ∈ l)
theorem Seen.nil : Seen [] [] := ⟨Nat.le_refl _, fun m => by rw [valV_nil]; rfl⟩
theorem putK_len {κ : Type} [DecidableEq κ] (kvs : List (κ × V)) (k : κ) (v : V) : (putK kvs k v).length ≤ kvs.length + 1 := by
  unfold putK
  split
  · rw [List.length_map]; omega
  · rw [List.length_append]; exact Nat.le_refl _
theorem Seen.put {kvs : List (Key × V)} {l : List Nat} (h : Seen kvs l) (x : Nat) (v : V) : Seen (putK kvs (.inl (x : Int)) v) (l ++ [x]) := by
  refine ⟨?_, fun m => ?_⟩
  · have := putK_len kvs (.inl (x : Int)) v
    have := h.len
    rw [List.length_append, List.length_singleton]
    omega
  · rw [valV_put]
    by_cases e : m = x
    · subst e
      rw [if_pos rfl]
      simp
    · rw [if_neg (fun z => e (by have := Sum.inl.inj z; omega)), h.is m]
      simp [e]
/-! ### all but what stands at d is kept -/
def But (d : Addr) (H H' : Hp) : Prop := ∀ b o, b ≠ d → H b = some o → H' b = some o
theorem But.same {d : Addr} {H H' : Hp} (s : Same H H') : But d H H' := fun b o _ h => s b o h
theorem But.trans {d : Addr} {H H1 H2 : Hp} (a : But d H H1) (b : But d H1 H2) : But d H H2 := fun c o n h => b c o n (a c o n h)
theorem But.at {d : Addr} {H : Hp} {o : HO} : But d H (upd H d o) := fun b u n h => by
  rw [upd_ne n]
  exact h
theorem But.put {d p : Addr} {H0 H : Hp} {o : HO} (s : But d H0 H) (h : H0 p = none) : But d H0 (upd H p o) := fun b x n e => by
  rw [upd_ne (ne_of_none e h)]
  exact s b x n e
theorem But.kt {d : Addr} {H H' : Hp} {kvs : List (List Key × V)} (s : But d H H') (h : H d = some (.dT kvs)) : KT H H' := fun t xs e =>
  s t _ (ne_of e h (by intro q; cases q)) e
theorem But.seq {K : PySem.W.Frag} {d a : Addr} {H H' : Hp} {kvs : List (List Key × V)} {xs : List V} (s : But d H H') (h : H d = some (.dT kvs)) (hs : SqL K H a xs) : SqL K H' a xs := by
  rcases hs with (hs | ⟨o, hs⟩) | hs
  · exact .inl (.inl (s _ _ (ne_of hs h (by intro q; cases q)) hs))
  · exact .inl (.inr ⟨o, s _ _ (ne_of hs h (by intro q; cases q)) hs⟩)
  · exact .inr hs
theorem TL.at' {H : Hp} : ∀ {xs : List V} {ds : List (List Int)} {i : Nat} {x : V}, TL H xs ds → xs[i]? = some x → ∃ t d, ds[i]? = some d ∧ x = .ref t ∧ H t = some (.tup (d.map V.int))
  | _, _, i, x, Paired.nil, e => by simp at e
  | _, _, 0, x, Paired.cons ⟨t, h1, h2⟩ _, e => by
    obtain rfl := Option.some.inj e
    exact ⟨t, _, rfl, h1, h2⟩
  | _, _, i + 1, x, Paired.cons _ r, e => by
    obtain ⟨t, d, h1, h2, h3⟩ := TL.at' (i := i) r (by simpa using e)
    exact ⟨t, d, by simpa using h1, h2, h3⟩
theorem TL.bite {H : Hp} {xs : List V} {ps : List (Nat × Nat)} {i : Nat} {x : V} (h : TL H xs (ps.map pr)) (e : xs[i]? = some x) :
    ∃ t p, ps[i]? = some p ∧ x = .ref t ∧ H t = some (.tup [.int (p.1 : Nat), .int (p.2 : Nat)]) := by
  obtain ⟨t, d, h1, h2, h3⟩ := TL.at' h e
  rw [List.getElem?_map] at h1
  cases e2 : ps[i]? with
  | none =>
    rw [e2] at h1
    cases h1
  | some p =>
    rw [e2] at h1
    have : pr p = d := Option.some.inj h1
    subst this
    exact ⟨t, p, rfl, h2, h3⟩
/-- the worths behind the bites -/
def wB (b : List Int) (p : Nat × Nat) : Nat := worthL (behindL b p.1 p.2)
theorem worth_mex (b : List Int) : worthL b = mex ((bitesL b).map (wB b)) := worthL_eq b
/-! ### numbers in a list -/
abbrev vN (l : List Nat) : List V := l.map fun m => V.int (m : Nat)
theorem inV_nat (m : Nat) : ∀ l : List Nat, inV (.int (m : Nat)) (vN l) = decide (m ∈ l)
  | [] => rfl
  | x :: l => by
    have ih := inV_nat m l
    unfold inV at *
    rw [vN, List.map_cons, List.any_cons, ih]
    by_cases e : m = x
    · subst e
      simp [eqV]
    · have : ((x : Int) == (m : Int)) = false := beq_eq_false_iff_ne.mpr fun z => e (by omega)
      simp [eqV, this, e]
theorem flat_nat : ∀ l : List Nat, (vN l).all flatV = true
  | [] => rfl
  | _ :: l => by
    rw [vN, List.map_cons, List.all_cons, flat_nat l]
    rfl
/-! ### hooks -/
def isHook (b : List Int) : Bool := (b.drop 1).all fun x => decide (x ≤ 1)
theorem hook_worth_is {b : List Int} (hb : IsBar 5 b) (h : isHook b = true) : worthL b = ((b.headD 0 - 1).toNat ^^^ (b.length - 1)) := by
  have q := all_bars (P := fun b => !isHook b || decide (worthL b = ((b.headD 0 - 1).toNat ^^^ (b.length - 1)))) (by decide +kernel) hb
  rw [h] at q
  simpa using q
/-! ### a place among the bites -/
theorem any_tup (e : List Int) : ∀ ds : List (List Int), ((dT ds).any fun z => PyData.eqv z (.tuple (dI e))) = decide (e ∈ ds)
  | [] => rfl
  | d :: ds => by
    rw [dT, List.map_cons, List.any_cons, any_tup e ds, eqv_tup]
    by_cases h : e = d
    · subst h
      simp
    · have h' : ¬ d = e := fun z => h z.symm
      simp [h, h']
theorem pr_mem {ps : List (Nat × Nat)} {r c : Nat} : pr (r, c) ∈ ps.map pr ↔ (r, c) ∈ ps := by
  constructor
  · intro h
    obtain ⟨p, hp, e⟩ := List.mem_map.mp h
    have e : [(p.1 : Int), (p.2 : Int)] = [(r : Int), (c : Int)] := e
    injection e with e1 e2
    injection e2 with e2 _
    have : p = (r, c) := Prod.ext (by show p.1 = r; omega) (by show p.2 = c; omega)
    rw [← this]
    exact hp
  · exact fun h => List.mem_map_of_mem h
/-! ### adding by figures of two without carrying -/
theorem xor_odd (a b : Nat) : (a ^^^ b) % 2 = (a + b) % 2 := by
  have h : (a ^^^ b) % 2 = ((a % 2) ^^^ (b % 2)) % 2 := by
    have h1 : ((a ^^^ b) % 2 ^ 1) = (a % 2 ^ 1) ^^^ (b % 2 ^ 1) := Nat.xor_mod_two_pow
    have h2 : ((a % 2 ^ 1) ^^^ (b % 2 ^ 1)) < 2 ^ 1 := Nat.xor_lt_two_pow (Nat.mod_lt _ (by decide)) (Nat.mod_lt _ (by decide))
    rw [show (2 : Nat) = 2 ^ 1 from rfl, h1]
    exact (Nat.mod_eq_of_lt h2).symm
  rw [h]
  rcases Nat.mod_two_eq_zero_or_one a with ha | ha <;> rcases Nat.mod_two_eq_zero_or_one b with hb | hb <;> rw [ha, hb] <;> first | (show (0 : Nat) = _; omega) | (show (1 : Nat) = _; omega)
theorem xor_step (a b : Nat) : a ^^^ b = (if a % 2 = b % 2 then 0 else 1) + 2 * ((a / 2) ^^^ (b / 2)) := by
  have h1 : (a ^^^ b) / 2 = a / 2 ^^^ b / 2 := Nat.xor_div_two
  have h2 := xor_odd a b
  rw [← h1]
  split <;> omega
theorem xor_shift (a b j : Nat) : (a ^^^ b) / 2 ^ j = (a / 2 ^ j) ^^^ (b / 2 ^ j) := by
  rw [← Nat.shiftRight_eq_div_pow, ← Nat.shiftRight_eq_div_pow, ← Nat.shiftRight_eq_div_pow, Nat.shiftRight_xor_distrib]
/-- how many of ws have the figure f -/
def cntBit (ws : List Nat) (f : Nat) : Nat := (ws.filter fun x => decide (x / f % 2 = 1)).length
def xorL (ws : List Nat) : Nat := ws.foldr (· ^^^ ·) 0
theorem xorL_bit (j : Nat) : ∀ ws : List Nat, xorL ws / 2 ^ j % 2 = cntBit ws (2 ^ j) % 2
  | [] => by
    show 0 / 2 ^ j % 2 = 0 % 2
    rw [Nat.zero_div]
  | x :: ws => by
    have ih := xorL_bit j ws
    show (x ^^^ xorL ws) / 2 ^ j % 2 = _
    rw [xor_shift, xor_odd]
    unfold cntBit at *
    rw [List.filter_cons]
    by_cases h : x / 2 ^ j % 2 = 1
    · rw [if_pos (decide_eq_true h), List.length_cons]
      omega
    · rw [if_neg (by rw [decide_eq_false h]; exact Bool.false_ne_true)]
      omega
theorem xorL_lt : ∀ {ws : List Nat}, (∀ x ∈ ws, x < 128) → xorL ws < 128
  | [], _ => by decide
  | x :: ws, h => by
    have h1 := h x List.mem_cons_self
    have h2 := xorL_lt fun y hy => h y (List.mem_cons_of_mem _ hy)
    exact Nat.xor_lt_two_pow (n := 7) h1 h2
def figs : List Nat := [1, 2, 4, 8, 16, 32, 64]
def addF (ws fs : List Nat) : Nat := (fs.map fun f => f * (cntBit ws f % 2)).sum
theorem addF_more {ws fs : List Nat} {i f : Nat} (h : fs[i]? = some f) : addF ws (fs.take (i + 1)) = addF ws (fs.take i) + f * (cntBit ws f % 2) := by
  unfold addF
  rw [take_more h, List.map_append, List.sum_append]
  simp
theorem addF_all {ws : List Nat} (h : ∀ x ∈ ws, x < 128) : addF ws figs = xorL ws := by
  have h0 := xorL_bit 0 ws
  have h1 := xorL_bit 1 ws
  have h2 := xorL_bit 2 ws
  have h3 := xorL_bit 3 ws
  have h4 := xorL_bit 4 ws
  have h5 := xorL_bit 5 ws
  have h6 := xorL_bit 6 ws
  have hl := xorL_lt h
  have e : addF ws figs = 1 * (cntBit ws (2 ^ 0) % 2) + (2 * (cntBit ws (2 ^ 1) % 2) + (4 * (cntBit ws (2 ^ 2) % 2) + (8 * (cntBit ws (2 ^ 3) % 2) + (16 * (cntBit ws (2 ^ 4) % 2) + (32 * (cntBit ws (2 ^ 5) % 2) + (64 * (cntBit ws (2 ^ 6) % 2) + 0)))))) := rfl
  rw [e, ← h0, ← h1, ← h2, ← h3, ← h4, ← h5, ← h6]
  generalize xorL ws = n at hl
  omega
/-! ### tables: lists of lists of ints -/
abbrev LL (H : Hp) (xs : List V) (ds : List (List Int)) : Prop := Paired (fun (x : V) (d : List Int) => ∃ t, x = .ref t ∧ H t = some (.lst (d.map V.int))) xs ds
theorem LL.keep {H H' : Hp} (k : ∀ t xs, H t = some (.lst xs) → H' t = some (.lst xs)) {xs : List V} {ds : List (List Int)} (h : LL H xs ds) : LL H' xs ds :=
  Paired.mapP h fun _ _ ⟨t, e, z⟩ => ⟨t, e, k _ _ z⟩
theorem LL.keepM {H H' : Hp} : ∀ {xs : List V} {ds : List (List Int)}, LL H xs ds → (∀ t l, V.ref t ∈ xs → H t = some (.lst l) → H' t = some (.lst l)) → LL H' xs ds
  | _, _, Paired.nil, _ => Paired.nil
  | _, _, Paired.cons ⟨t, e, h⟩ r, k => Paired.cons ⟨t, e, k t _ (by rw [e]; exact List.mem_cons_self) h⟩ (LL.keepM r fun u l hu => k u l (List.mem_cons_of_mem _ hu))
theorem LL.same {H H' : Hp} (s : Same H H') {xs : List V} {ds : List (List Int)} (h : LL H xs ds) : LL H' xs ds := LL.keep (fun t xs e => s _ _ e) h
theorem LL.but {H H' : Hp} {d : Addr} {kvs : List (List Key × V)} (s : But d H H') (hd : H d = some (.dT kvs)) {xs : List V} {ds : List (List Int)} (h : LL H xs ds) : LL H' xs ds :=
  LL.keep (fun t xs e => s _ _ (ne_of e hd (by intro z; cases z)) e) h
theorem LL.length {H : Hp} {xs : List V} {ds : List (List Int)} (h : LL H xs ds) : xs.length = ds.length := Paired.length h
theorem LL.snoc {H : Hp} : ∀ {xs : List V} {ds : List (List Int)} {t : Addr} {d : List Int}, LL H xs ds → H t = some (.lst (d.map V.int)) → LL H (xs ++ [.ref t]) (ds ++ [d])
  | _, _, t, d, Paired.nil, e => Paired.cons ⟨t, rfl, e⟩ Paired.nil
  | _, _, t, d, Paired.cons r h, e => Paired.cons r (LL.snoc h e)
theorem LL.at {H : Hp} : ∀ {xs : List V} {ds : List (List Int)} {i : Nat} {x : V}, LL H xs ds → xs[i]? = some x → ∃ t d, ds[i]? = some d ∧ x = .ref t ∧ H t = some (.lst (d.map V.int))
  | _, _, i, x, Paired.nil, e => by simp at e
  | _, _, 0, x, Paired.cons ⟨t, h1, h2⟩ _, e => by
    obtain rfl := Option.some.inj e
    exact ⟨t, _, rfl, h1, h2⟩
  | _, _, i + 1, x, Paired.cons _ r, e => by
    obtain ⟨t, d, h1, h2, h3⟩ := LL.at (i := i) r (by simpa using e)
    exact ⟨t, d, by simpa using h1, h2, h3⟩
theorem LL.get {H : Hp} : ∀ {xs : List V} {ds : List (List Int)} {i : Nat} {d : List Int}, LL H xs ds → ds[i]? = some d → ∃ t, xs[i]? = some (.ref t) ∧ H t = some (.lst (d.map V.int))
  | _, _, i, d, Paired.nil, e => by simp at e
  | _, _, 0, d, Paired.cons ⟨t, h1, h2⟩ _, e => by
    obtain rfl := Option.some.inj e
    exact ⟨t, by rw [h1]; rfl, h2⟩
  | _, _, i + 1, d, Paired.cons _ r, e => by
    obtain ⟨t, h1, h2⟩ := LL.get (i := i) r (by simpa using e)
    exact ⟨t, by simpa using h1, h2⟩
theorem dp_lls {K : PySem.W.Frag} {H : Hp} : ∀ {xs : List V} {ds : List (List Int)}, LL H xs ds → DpAll K H xs (dL ds)
  | _, _, Paired.nil => .nil
  | _, _, Paired.cons ⟨t, e, h⟩ r => by
    subst e
    exact .cons (.lst (SqL.of h) (dp_ints _)) (dp_lls r)
theorem dp_table {K : PySem.W.Frag} {H : Hp} {a : Addr} {xs : List V} {ds : List (List Int)} (h : SqL K H a xs) (t : LL H xs ds) : Dp K H (.ref a) (.list (dL ds)) := .lst h (dp_lls t)
theorem eqv_table (ns ms : List (List Int)) : PyData.eqv (.list (dL ns)) (.list (dL ms)) = decide (ns = ms) := by rw [PyData.eqv, eqv_lists]
/-- a table: at most three bars -/
structure IsTable (ds : List (List Int)) : Prop where
  le : ds.length ≤ 3
  is : ∀ d ∈ ds, IsBar 5 d
/-- all of these lists are new -/
def NewL (H : Hp) (xs : List V) : Prop := ∀ x ∈ xs, ∀ t, x = V.ref t → H t = none
/-- [list(bar) for bar in table], the table at T, the block's own name in slot j, the new list at D -/
theorem copy_loop {K : PySem.W.Frag} {σ : L2.St} {H : Hp} {Qd : Hp → Prop} {j : Nat} {T D : Addr} {xs : List V} {ds : List (List Int)} (hj : j < σ.length) (hT : SqL K H T xs) (ll : LL H xs ds) (hl : xs.length ≤ 1000) (nD : H D = none)
    (q : ∀ H' ys, Same H H' → H' D = some (.lst ys) → LL H' ys ds → NewL H ys → V.ref D ∉ ys → Qd H') :
    ∃ W : Nat → Nat → Hp → Prop, (∃ m, W 0 m (upd H D (.lst []))) ∧ ∀ i m H, W i m H →
      ((Itl K T).stop i H ∧ Qd H) ∨ ((Itl K T).go i H ∧ ∃ Nx : Hp → Prop, (∀ H', Nx H' → ∃ m', m' < m ∧ W (i + 1) m' H') ∧ ∀ x H', (Itl K T).yld i H x H' → (gName j) x (wipe σ [j]) H' fun σ2 H2 => wipe σ2 [j] = wipe σ [j] ∧ tYes σ2 H2 fun b H3 =>
        if b = true then (tCB (fun xs H Q => ∃ p ys, xs = [V.ref p] ∧ (SqL K H p ys ∨ SqT K H p ys) ∧ ∀ l, H l = none → Q (V.ref l) (upd H l (.lst ys))) (tCons (tVar j) tNil)) σ2 H3 fun y H4 => ∃ acc, H4 D = some (.lst acc) ∧ acc.length < sizeLine ∧ Nx (upd H4 D (.lst (acc ++ [y]))) else Nx H3) := by
  refine lc_list (K := K) (a := T) (xs := xs) (fun n H' => ∃ ys : List V, Same H H' ∧ H' D = some (.lst ys) ∧ LL H' ys (ds.take n) ∧ NewL H ys ∧ ys.length = n ∧ V.ref D ∉ ys) ⟨[], sNew nD, upd_same, Paired.nil, fun x hx => (nomatch hx), rfl, by simp⟩ (fun n H' _ ⟨_, s, _⟩ => s.seq hT) ?_ ?_
  · rintro n x H1 hn ⟨ys, s1, hD, ly, ny, el, nm⟩
    obtain ⟨t, d, hd, rfl, ht⟩ := ll.at hn
    refine ⟨?_, yesT ?_⟩
    · show wipe ((wipe σ [j]).set j _) [j] = wipe σ [j]
      show ((σ.set j none).set j _).set j none = σ.set j none
      rw [List.set_set, List.set_set]
    have hw : ((wipe σ [j]).set j (some (V.ref t)))[j]? = some (some (V.ref t)) := by
      rw [List.getElem?_set_self (by show j < (σ.set j none).length; rw [List.length_set]; exact hj)]
    refine ⟨_, hw, t, _, rfl, .inl (SqL.of (s1 _ _ ht)), fun l nl => ?_⟩
    have Dl : D ≠ l := ne_of_none hD nl
    have hn' : n < xs.length := (List.getElem?_eq_some_iff.mp hn).1
    refine ⟨ys, by rw [upd_ne Dl]; exact hD, small' (by omega), ys ++ [.ref l], sPut (sThen s1 nl) nD, upd_same, ?_, ?_, by rw [List.length_append, el]; rfl, fun z => ?_⟩
    · rw [take_more hd]
      refine LL.snoc (LL.keepM ly fun c cs hm e => ?_) (by rw [upd_ne Dl.symm, upd_same])
      have h1 : c ≠ D := fun z => nm (by rw [← z]; exact hm)
      rw [upd_ne h1, upd_ne (ne_of_none e nl)]
      exact e
    · intro y hy u e
      rcases List.mem_append.mp hy with h | h
      · exact ny y h u e
      · have := List.mem_singleton.mp h
        rw [this] at e
        have : l = u := V.ref.inj e
        rw [← this]
        exact s1.free nl
    · rcases List.mem_append.mp z with h | h
      · exact nm h
      · exact Dl (V.ref.inj (List.mem_singleton.mp h))
  · rintro H1 ⟨ys, s1, hD, ly, ny, el, nm⟩
    rw [ll.length, List.take_length] at ly
    exact q H1 ys s1 hD ly ny nm
/-- the worths of a table's bars -/
def worthsL (ds : List (List Int)) : List Nat := ds.map worthL
theorem worth_le {b : List Int} (h : IsBar 5 b) : worthL b ≤ 25 := by
  have hw := mex_spec ((bitesL b).map (wB b))
  rw [← worth_mex] at hw
  have h1 := length_le_of_sub (l := List.range (worthL b)) (m := (bitesL b).map (wB b)) List.nodup_range fun x hx => hw.2 x (List.mem_range.mp hx)
  have h2 := bitesL_len h
  rw [List.length_range, List.length_map] at h1
  omega
theorem worths_lt {ds : List (List Int)} (h : ∀ d ∈ ds, IsBar 5 d) : ∀ x ∈ worthsL ds, x < 128 := fun x hx => by
  obtain ⟨d, hd, rfl⟩ := List.mem_map.mp hx
  have := worth_le (h d hd)
  omega
theorem xorL_snoc (x : Nat) : ∀ l : List Nat, xorL (l ++ [x]) = xorL l ^^^ x
  | [] => by
    show x ^^^ 0 = 0 ^^^ x
    rw [Nat.xor_comm]
  | y :: l => by
    show y ^^^ xorL (l ++ [x]) = (y ^^^ xorL l) ^^^ x
    rw [xorL_snoc x l, Nat.xor_assoc]
/-! ### winning bites -/
def isWin (tot : Nat) (d : List Int) (p : Nat × Nat) : Bool := decide (wB d p = tot ^^^ worthL d)
def tri (n : Nat) (p : Nat × Nat) : List Int := [(n : Int), (p.1 : Int), (p.2 : Int)]
def winBar (tot n : Nat) (d : List Int) (bs : List (Nat × Nat)) : List (List Int) := (bs.filter (isWin tot d)).map (tri n)
def winFrom (tot : Nat) : Nat → List (List Int) → List (List Int)
  | _, [] => []
  | n, d :: ds => winBar tot n d (bitesL d) ++ winFrom tot (n + 1) ds
def winL (ds : List (List Int)) : List (List Int) := winFrom (xorL (worthsL ds)) 0 ds
theorem winFrom_snoc (tot : Nat) (d : List Int) : ∀ (n : Nat) (l : List (List Int)), winFrom tot n (l ++ [d]) = winFrom tot n l ++ winBar tot (n + l.length) d (bitesL d)
  | n, [] => by simp [winFrom]
  | n, e :: l => by
    rw [List.cons_append, winFrom, winFrom, winFrom_snoc tot d (n + 1) l, List.append_assoc, List.length_cons, Nat.add_assoc, Nat.add_comm 1 l.length]
theorem winFrom_more (tot : Nat) {ds : List (List Int)} {i : Nat} {d : List Int} (h : ds[i]? = some d) : winFrom tot 0 (ds.take (i + 1)) = winFrom tot 0 (ds.take i) ++ winBar tot i d (bitesL d) := by
  have hi : i < ds.length := (List.getElem?_eq_some_iff.mp h).1
  rw [take_more h, winFrom_snoc, List.length_take, Nat.min_eq_left (Nat.le_of_lt hi), Nat.zero_add]
theorem winBar_more (tot n : Nat) (d : List Int) {bs : List (Nat × Nat)} {j : Nat} {p : Nat × Nat} (h : bs[j]? = some p) : winBar tot n d (bs.take (j + 1)) = winBar tot n d (bs.take j) ++ if isWin tot d p = true then [tri n p] else [] := by
  unfold winBar
  rw [take_more h, List.filter_append, List.map_append]
  cases e : isWin tot d p <;> simp [e]
theorem winBar_len (tot n : Nat) (d : List Int) (bs : List (Nat × Nat)) : (winBar tot n d bs).length ≤ bs.length := by
  unfold winBar
  rw [List.length_map]
  exact List.length_filter_le _ _
theorem winFrom_len (tot : Nat) : ∀ (n : Nat) (l : List (List Int)), (∀ d ∈ l, IsBar 5 d) → (winFrom tot n l).length ≤ 25 * l.length
  | _, [], _ => Nat.zero_le _
  | n, d :: l, h => by
    have h1 := winBar_len tot n d (bitesL d)
    have h2 := bitesL_len (h d List.mem_cons_self)
    have h3 := winFrom_len tot (n + 1) l fun e he => h e (List.mem_cons_of_mem _ he)
    rw [winFrom, List.length_append, List.length_cons]
    omega
theorem xorL_append (a b : List Nat) : xorL (a ++ b) = xorL a ^^^ xorL b := by
  induction a with
  | nil =>
    show xorL b = 0 ^^^ xorL b
    rw [Nat.xor_comm, Nat.xor_zero]
  | cons x a ih =>
    show x ^^^ xorL (a ++ b) = (x ^^^ xorL a) ^^^ xorL b
    rw [ih, Nat.xor_assoc]
theorem xor_cancel (a b : Nat) : a ^^^ b ^^^ b = a := by rw [Nat.xor_assoc, Nat.xor_self, Nat.xor_zero]
theorem xor_zero_iff {a b : Nat} : a ^^^ b = 0 ↔ a = b := by
  constructor
  · intro h
    have := xor_cancel a b
    rw [h, Nat.xor_comm, Nat.xor_zero] at this
    exact this.symm
  · rintro rfl
    exact Nat.xor_self a
/-- a worth put in another's place: all come to nought just where it is what is left of the sum -/
theorem put_zero {ws : List Nat} {n w x : Nat} (h : ws[n]? = some w) : xorL (ws.take n ++ [x] ++ ws.drop (n + 1)) = 0 ↔ x = xorL ws ^^^ w := by
  obtain ⟨hi, e⟩ := List.getElem?_eq_some_iff.mp h
  have hs : ws = ws.take n ++ [w] ++ ws.drop (n + 1) := by
    rw [List.append_assoc, List.singleton_append, ← e, ← List.drop_eq_getElem_cons hi, List.take_append_drop]
  have one : ∀ y : Nat, xorL [y] = y := fun y => Nat.xor_zero y
  have e1 : xorL (ws.take n ++ [x] ++ ws.drop (n + 1)) = (xorL (ws.take n) ^^^ xorL (ws.drop (n + 1))) ^^^ x := by
    rw [xorL_append, xorL_append, one, Nat.xor_assoc, Nat.xor_comm x, Nat.xor_assoc]
  have e2 : xorL ws = (xorL (ws.take n) ^^^ xorL (ws.drop (n + 1))) ^^^ w := by
    conv => lhs; rw [hs]
    rw [xorL_append, xorL_append, one, Nat.xor_assoc, Nat.xor_comm w, Nat.xor_assoc]
  rw [e1, xor_zero_iff, e2, xor_cancel]
  exact eq_comm
/-! ### two places that change -/
def But2 (d f : Addr) (H H' : Hp) : Prop := ∀ b o, b ≠ d → b ≠ f → H b = some o → H' b = some o
theorem But2.refl {d f : Addr} {H : Hp} : But2 d f H H := fun _ _ _ _ h => h
theorem But2.trans {d f : Addr} {H H1 H2 : Hp} (a : But2 d f H H1) (b : But2 d f H1 H2) : But2 d f H H2 := fun c o n m h => b c o n m (a c o n m h)
theorem But2.same {d f : Addr} {H H' : Hp} (s : Same H H') : But2 d f H H' := fun b o _ _ h => s b o h
theorem But2.but {d f : Addr} {H H' : Hp} (s : But d H H') : But2 d f H H' := fun b o n _ h => s b o n h
theorem But2.at {d f : Addr} {H : Hp} {o : HO} : But2 d f H (upd H f o) := fun b u _ n h => by
  rw [upd_ne n]
  exact h
theorem But2.same0 {d f : Addr} {H0 H H' : Hp} (s : Same H0 H) (hd : H0 d = none) (hf : H0 f = none) (b : But2 d f H H') : Same H0 H' := fun c o e => b c o (ne_of_none e hd) (ne_of_none e hf) (s c o e)
theorem But2.kt {d f : Addr} {H H' : Hp} {kvs : List (List Key × V)} {ys : List V} (b : But2 d f H H') (hd : H d = some (.dT kvs)) (hf : H f = some (.lst ys)) : KT H H' := fun t xs e =>
  b t _ (ne_of e hd (by intro z; cases z)) (ne_of e hf (by intro z; cases z)) e
theorem for_enum {K : PySem.W.Frag} {a : Addr} {xs : List V} {g : TG} {tb : TS} {D : Ends} {σ : L2.St} {H : Hp} (Pv : Nat → L2.St → Hp → Prop) (h0 : Pv 0 σ H) (hl : ∀ i σ H, i ≤ xs.length → Pv i σ H → SqL K H a xs)
    (hs : ∀ i x σ H T, xs[i]? = some x → Pv i σ H → H T = none → g (.ref T) σ (upd H T (.tup [.int (i : Nat), x])) fun σ2 H2 => tb { D with nx := Pv (i + 1), ct := Pv (i + 1), bk := D.nx } σ2 H2) (hd : ∀ σ H, Pv xs.length σ H → D.nx σ H) :
    ∃ W : Nat → Nat → L2.St → Hp → Prop, (∃ m, W 0 m σ H) ∧ ∀ i m σ H, W i m σ H →
      ((Ite K a).stop i H ∧ D.nx σ H) ∨ ((Ite K a).go i H ∧ ∃ N : L2.St → Hp → Prop, (∀ σ' H', N σ' H' → ∃ m', m' < m ∧ W (i + 1) m' σ' H') ∧ ∀ x H', (Ite K a).yld i H x H' → g x σ H' fun σ2 H2 => tb { D with nx := N, ct := N, bk := D.nx } σ2 H2) := by
  refine ⟨fun i m σ H => m = xs.length - i ∧ i ≤ xs.length ∧ Pv i σ H, ⟨xs.length, by simp, Nat.zero_le _, h0⟩, ?_⟩
  rintro i m σ H ⟨rfl, hi, p⟩
  have q := hl i σ H hi p
  by_cases hlt : i < xs.length
  · refine .inr ⟨⟨xs, xs[i], q, by simp [hlt]⟩, Pv (i + 1), fun σ' H' p' => ⟨xs.length - (i + 1), by omega, rfl, hlt, p'⟩, fun x H' y => ?_⟩
    obtain ⟨T, x', rfl, nT, rfl, y⟩ := y
    exact hs i x' σ H T (y xs q) p nT
  · have e : i = xs.length := by omega
    subst e
    exact .inl ⟨⟨xs, q, Nat.le_refl _⟩, hd σ H p⟩
/-! ### all spots, the play -/
def spotsFrom : Nat → List (List Int) → List (List Int)
  | _, [] => []
  | n, d :: ds => (bitesL d).map (tri n) ++ spotsFrom (n + 1) ds
def spots (ds : List (List Int)) : List (List Int) := spotsFrom 0 ds
theorem spotsFrom_snoc (d : List Int) : ∀ (n : Nat) (l : List (List Int)), spotsFrom n (l ++ [d]) = spotsFrom n l ++ (bitesL d).map (tri (n + l.length))
  | n, [] => by simp [spotsFrom]
  | n, e :: l => by
    rw [List.cons_append, spotsFrom, spotsFrom, spotsFrom_snoc d (n + 1) l, List.append_assoc, List.length_cons, Nat.add_assoc, Nat.add_comm 1 l.length]
theorem spots_more {ds : List (List Int)} {i : Nat} {d : List Int} (h : ds[i]? = some d) : spots (ds.take (i + 1)) = spots (ds.take i) ++ (bitesL d).map (tri i) := by
  have hi : i < ds.length := (List.getElem?_eq_some_iff.mp h).1
  unfold spots
  rw [take_more h, spotsFrom_snoc, List.length_take, Nat.min_eq_left (Nat.le_of_lt hi), Nat.zero_add]
theorem mem_spotsFrom {e : List Int} : ∀ {k : Nat} {ds : List (List Int)}, e ∈ spotsFrom k ds → ∃ n d p, ds[n]? = some d ∧ p ∈ bitesL d ∧ e = tri (k + n) p
  | _, [], h => nomatch h
  | k, d :: ds, h => by
    rw [spotsFrom] at h
    rcases List.mem_append.mp h with h | h
    · obtain ⟨p, hp, rfl⟩ := List.mem_map.mp h
      exact ⟨0, d, p, rfl, hp, rfl⟩
    · obtain ⟨n, c, p, h1, h2, h3⟩ := mem_spotsFrom h
      exact ⟨n + 1, c, p, by simpa using h1, h2, by rw [h3]; unfold tri; congr 1; omega⟩
theorem mem_spots {e : List Int} {ds : List (List Int)} (h : e ∈ spots ds) : ∃ n d p, ds[n]? = some d ∧ p ∈ bitesL d ∧ e = tri n p := by
  obtain ⟨n, d, p, h1, h2, h3⟩ := mem_spotsFrom h
  rw [Nat.zero_add] at h3
  exact ⟨n, d, p, h1, h2, h3⟩
theorem spotsFrom_len : ∀ (n : Nat) (l : List (List Int)), (∀ d ∈ l, IsBar 5 d) → (spotsFrom n l).length ≤ 25 * l.length
  | _, [], _ => Nat.zero_le _
  | n, d :: l, h => by
    have h2 := bitesL_len (h d List.mem_cons_self)
    have h3 := spotsFrom_len (n + 1) l fun e he => h e (List.mem_cons_of_mem _ he)
    rw [spotsFrom, List.length_append, List.length_cons, List.length_map]
    omega
theorem spotsFrom_none : ∀ {k : Nat} {ds : List (List Int)}, spotsFrom k ds = [] → xorL (worthsL ds) = 0
  | _, [], _ => rfl
  | k, d :: ds, h => by
    rw [spotsFrom] at h
    obtain ⟨h1, h2⟩ := List.append_eq_nil_iff.mp h
    have ih := spotsFrom_none h2
    have hb : bitesL d = [] := List.map_eq_nil_iff.mp h1
    have hw : worthL d = 0 := by
      rw [worth_mex, hb]
      rfl
    show worthL d ^^^ xorL (worthsL ds) = 0
    rw [hw, ih]
    rfl
theorem mem_winFrom {e : List Int} {tot : Nat} : ∀ {k : Nat} {ds : List (List Int)}, e ∈ winFrom tot k ds → ∃ n d p, ds[n]? = some d ∧ p ∈ bitesL d ∧ wB d p = tot ^^^ worthL d ∧ e = tri (k + n) p
  | _, [], h => nomatch h
  | k, d :: ds, h => by
    rw [winFrom] at h
    rcases List.mem_append.mp h with h | h
    · obtain ⟨p, hp, rfl⟩ := List.mem_map.mp h
      obtain ⟨h1, h2⟩ := List.mem_filter.mp hp
      exact ⟨0, d, p, rfl, h1, of_decide_eq_true h2, rfl⟩
    · obtain ⟨n, c, p, h1, h2, h3, h4⟩ := mem_winFrom h
      exact ⟨n + 1, c, p, by simpa using h1, h2, h3, by rw [h4]; unfold tri; congr 1; omega⟩
theorem winFrom_has {tot : Nat} {p : Nat × Nat} {d : List Int} (hp : p ∈ bitesL d) (hw : wB d p = tot ^^^ worthL d) : ∀ {k n : Nat} {ds : List (List Int)}, ds[n]? = some d → winFrom tot k ds ≠ []
  | _, _, [], h => by simp at h
  | k, 0, c :: ds, h => by
    obtain rfl := Option.some.inj h
    rw [winFrom]
    intro z
    have h1 := (List.append_eq_nil_iff.mp z).1
    have h2 : p ∈ (bitesL c).filter (isWin tot c) := List.mem_filter.mpr ⟨hp, decide_eq_true hw⟩
    rw [List.map_eq_nil_iff.mp h1] at h2
    cases h2
  | k, n + 1, c :: ds, h => by
    rw [winFrom]
    intro z
    exact winFrom_has hp hw (k := k + 1) (by simpa using h) (List.append_eq_nil_iff.mp z).2
theorem nim3 : (List.range 26).all (fun a => (List.range 26).all fun b => (List.range 26).all fun c => decide (a ^^^ (b ^^^ c) = 0) || decide ((a ^^^ (b ^^^ c)) ^^^ a < a) || decide ((a ^^^ (b ^^^ c)) ^^^ b < b) || decide ((a ^^^ (b ^^^ c)) ^^^ c < c)) = true := by decide +kernel
theorem nim_at {a b c : Nat} (ha : a ≤ 25) (hb : b ≤ 25) (hc : c ≤ 25) (h : a ^^^ (b ^^^ c) ≠ 0) : (a ^^^ (b ^^^ c)) ^^^ a < a ∨ (a ^^^ (b ^^^ c)) ^^^ b < b ∨ (a ^^^ (b ^^^ c)) ^^^ c < c := by
  have q := List.all_eq_true.mp (List.all_eq_true.mp (List.all_eq_true.mp nim3 a (List.mem_range.mpr (by omega))) b (List.mem_range.mpr (by omega))) c (List.mem_range.mpr (by omega))
  rw [decide_eq_false h, Bool.false_or, Bool.or_eq_true, Bool.or_eq_true, decide_eq_true_eq, decide_eq_true_eq, decide_eq_true_eq] at q
  rcases q with (q | q) | q
  · exact .inl q
  · exact .inr (.inl q)
  · exact .inr (.inr q)
theorem nim_list {ws : List Nat} (hl : ws.length ≤ 3) (h25 : ∀ x ∈ ws, x ≤ 25) (h : xorL ws ≠ 0) : ∃ n w : Nat, ws[n]? = some w ∧ xorL ws ^^^ w < w := by
  match ws, hl with
  | [], _ => exact absurd rfl h
  | [a], _ =>
    have e : xorL [a] = a ^^^ (0 ^^^ 0) := rfl
    rw [e] at h ⊢
    rcases nim_at (h25 a (by simp)) (Nat.zero_le _) (Nat.zero_le _) h with q | q | q
    · exact ⟨0, a, rfl, q⟩
    · exact absurd q (Nat.not_lt_zero _)
    · exact absurd q (Nat.not_lt_zero _)
  | [a, b], _ =>
    have e : xorL [a, b] = a ^^^ (b ^^^ 0) := rfl
    rw [e] at h ⊢
    rcases nim_at (h25 a (by simp)) (h25 b (by simp)) (Nat.zero_le _) h with q | q | q
    · exact ⟨0, a, rfl, q⟩
    · exact ⟨1, b, rfl, q⟩
    · exact absurd q (Nat.not_lt_zero _)
  | [a, b, c], _ =>
    have e : xorL [a, b, c] = a ^^^ (b ^^^ c) := by
      show a ^^^ (b ^^^ (c ^^^ 0)) = _
      rw [Nat.xor_zero]
    rw [e] at h ⊢
    rcases nim_at (h25 a (by simp)) (h25 b (by simp)) (h25 c (by simp)) h with q | q | q
    · exact ⟨0, a, rfl, q⟩
    · exact ⟨1, b, rfl, q⟩
    · exact ⟨2, c, rfl, q⟩
  | _ :: _ :: _ :: _ :: _, hl =>
    simp at hl
/-- POINT 8: where the worth is not nought there is a winning bite -/
theorem win_there {ds : List (List Int)} (it : IsTable ds) (h : xorL (worthsL ds) ≠ 0) : winL ds ≠ [] := by
  obtain ⟨n, x, hn, hx⟩ := nim_list (ws := worthsL ds) (by unfold worthsL; rw [List.length_map]; exact it.le) (fun x hx => by
    obtain ⟨d, hd, rfl⟩ := List.mem_map.mp hx
    exact worth_le (it.is d hd)) h
  unfold worthsL at hn
  rw [List.getElem?_map] at hn
  cases e : ds[n]? with
  | none => rw [e] at hn; cases hn
  | some d =>
    rw [e] at hn
    obtain rfl : worthL d = x := Option.some.inj hn
    have hw := mex_spec ((bitesL d).map (wB d))
    rw [← worth_mex] at hw
    obtain ⟨p, hp, ep⟩ := List.mem_map.mp (hw.2 _ hx)
    exact winFrom_has hp ep e
theorem xorL_set : ∀ {ws : List Nat} {n w : Nat} (x : Nat), ws[n]? = some w → xorL (ws.set n x) = (xorL ws ^^^ w) ^^^ x
  | [], n, w, x, h => by simp at h
  | y :: ws, 0, w, x, h => by
    obtain rfl := Option.some.inj h
    show x ^^^ xorL ws = ((y ^^^ xorL ws) ^^^ y) ^^^ x
    rw [Nat.xor_comm y (xorL ws), xor_cancel, Nat.xor_comm]
  | y :: ws, n + 1, w, x, h => by
    have ih := xorL_set (ws := ws) (n := n) x (by simpa using h)
    show y ^^^ xorL (ws.set n x) = ((y ^^^ xorL ws) ^^^ w) ^^^ x
    rw [ih, Nat.xor_assoc, Nat.xor_assoc, Nat.xor_assoc]
theorem worths_set {ds : List (List Int)} {n : Nat} {d : List Int} (p : Nat × Nat) (h : ds[n]? = some d) : xorL (worthsL (ds.set n (behindL d p.1 p.2))) = (xorL (worthsL ds) ^^^ worthL d) ^^^ wB d p := by
  unfold worthsL
  rw [List.map_set]
  exact xorL_set _ (by rw [List.getElem?_map, h]; rfl)
def total (ds : List (List Int)) : Nat := (ds.map pieces).sum
theorem total_set : ∀ {ds : List (List Int)} {n : Nat} {d e : List Int}, ds[n]? = some d → pieces e < pieces d → total (ds.set n e) < total ds
  | [], n, d, e, h, _ => by simp at h
  | c :: ds, 0, d, e, h, hl => by
    obtain rfl := Option.some.inj h
    show ((e :: ds).map pieces).sum < ((c :: ds).map pieces).sum
    rw [List.map_cons, List.map_cons, List.sum_cons, List.sum_cons]
    omega
  | c :: ds, n + 1, d, e, h, hl => by
    have ih := total_set (ds := ds) (n := n) (by simpa using h) hl
    unfold total at ih
    show ((c :: ds.set n e).map pieces).sum < ((c :: ds).map pieces).sum
    rw [List.map_cons, List.map_cons, List.sum_cons, List.sum_cons]
    omega
theorem table_set {ds : List (List Int)} (it : IsTable ds) {n : Nat} {e : List Int} (h : IsBar 5 e) : IsTable (ds.set n e) := by
  refine ⟨by rw [List.length_set]; exact it.le, fun d hd => ?_⟩
  rcases List.mem_or_eq_of_mem_set hd with h' | h'
  · exact it.is d h'
  · rw [h']
    exact h
theorem LL.set {H : Hp} {t : Addr} {e : List Int} (he : H t = some (.lst (e.map V.int))) : ∀ {xs : List V} {ds : List (List Int)} (n : Nat), LL H xs ds → LL H (xs.set n (.ref t)) (ds.set n e)
  | _, _, _, Paired.nil => Paired.nil
  | _, _, 0, Paired.cons _ r => Paired.cons ⟨t, rfl, he⟩ r
  | _, _, n + 1, Paired.cons q r => Paired.cons q (LL.set he n r)
theorem eqv_tl_nil (ls : List (List Int)) : PyData.eqv (.list (dT ls)) (.list []) = decide (ls = []) := by
  rw [PyData.eqv]
  cases ls with
  | nil => simp [dT, PyData.eqvAll]
  | cons _ _ => simp [dT, PyData.eqvAll]
theorem shaped_nil : SeqAt.shaped (.list []) = true := shaped_list []
/-! ### notes -/
open TL in
/-- a bar's word -/
def codesW (d : List Int) : List Nat := d.map fun x => 48 + x.toNat
def wordS (d : List Int) : Str := ⟨(codesW d).toArray⟩
def blank : Str := Str.ofString " "
def noteS (ds : List (List Int)) : Str := Txt.join blank (ds.map wordS)
theorem tl_wordS (d : List Int) : TL.tl (wordS d) = codesW d := rfl
theorem tl_blank : TL.tl blank = [32] := by decide +kernel
theorem str_digit {x : Int} (h1 : 1 ≤ x) (h5 : x ≤ 5) : Str.ofString (toString x) = ⟨#[48 + x.toNat]⟩ := by
  rcases (by omega : x = 1 ∨ x = 2 ∨ x = 3 ∨ x = 4 ∨ x = 5) with rfl | rfl | rfl | rfl | rfl <;> decide +kernel
theorem fig_at {x : Int} (h1 : 1 ≤ x) (h5 : x ≤ 5) : Builtin.Str.occurrences (Str.ofString "12345") ⟨#[48 + x.toNat]⟩ 0 (Str.ofString "12345").length 1 = (x.toNat - 1) :: [] ∧ (48 + x.toNat) ∈ (Str.ofString "12345").cps.toList ∧ atI (Str.ofString "012345").cps.toList x = some (48 + x.toNat) := by
  rcases (by omega : x = 1 ∨ x = 2 ∨ x = 3 ∨ x = 4 ∨ x = 5) with rfl | rfl | rfl | rfl | rfl <;> exact ⟨by decide +kernel, by decide +kernel, by decide +kernel⟩
theorem joinL_nil : ∀ l : List (List Nat), TL.joinL [] l = l.flatten
  | [] => rfl
  | [x] => by
    show x = x ++ []
    rw [List.append_nil]
  | x :: y :: r => by
    show x ++ ([] ++ TL.joinL [] (y :: r)) = x ++ (y :: r).flatten
    rw [List.nil_append, joinL_nil (y :: r)]
theorem join_word (d : List Int) : Txt.join (Str.ofString "") (d.map fun x => (⟨#[48 + x.toNat]⟩ : Str)) = wordS d := by
  refine TL.ext_tl ?_
  rw [TL.join_eq, TL.tl_join, show TL.tl (Str.ofString "") = [] from by decide +kernel, joinL_nil, tl_wordS, List.map_map]
  unfold codesW
  induction d with
  | nil => rfl
  | cons x d ih =>
    rw [List.map_cons, List.map_cons, List.flatten_cons, ih]
    rfl
theorem joinL_snoc (s : List Nat) (x : List Nat) : ∀ {l : List (List Nat)}, l ≠ [] → TL.joinL s (l ++ [x]) = TL.joinL s l ++ (s ++ x)
  | [], h => absurd rfl h
  | [y], _ => rfl
  | y :: z :: r, _ => by
    have ih := joinL_snoc s x (l := z :: r) (by simp)
    show y ++ (s ++ TL.joinL s ((z :: r) ++ [x])) = (y ++ (s ++ TL.joinL s (z :: r))) ++ (s ++ x)
    rw [ih]
    simp only [List.append_assoc]
theorem tl_noteS (ds : List (List Int)) : TL.tl (noteS ds) = TL.joinL [32] (ds.map codesW) := by
  unfold noteS
  rw [TL.join_eq, TL.tl_join, tl_blank, List.map_map]
  rfl
theorem note_snoc (l : List (List Int)) (d : List Int) : noteS (l ++ [d]) = if l = [] then wordS d else noteS l ++ blank ++ wordS d := by
  refine TL.ext_tl ?_
  by_cases h : l = []
  · subst h
    rw [if_pos rfl, tl_noteS, tl_wordS]
    rfl
  · rw [if_neg h, tl_noteS, TL.tl_append, TL.tl_append, tl_noteS, tl_blank, tl_wordS, List.map_append, List.map_singleton, joinL_snoc _ _ (by simpa using h), List.append_assoc]
theorem noteS_nil : noteS [] = Str.ofString "" := by decide +kernel
theorem codes_no {d : List Int} (h : ∀ x ∈ d, 1 ≤ x ∧ x ≤ 5) : (32 : Nat) ∉ codesW d := fun hm => by
  obtain ⟨x, hx, e⟩ := List.mem_map.mp hm
  have := h x hx
  omega
theorem note_split {ds : List (List Int)} (hne : ds ≠ []) (h : ∀ d ∈ ds, IsBar 5 d) : Txt.split (noteS ds) blank = ds.map wordS := by
  unfold noteS
  refine TL.split_join (s := 32) (S := []) tl_blank (by decide +kernel) (by simpa using hne) fun p hp => ?_
  obtain ⟨d, hd, rfl⟩ := List.mem_map.mp hp
  rw [tl_wordS]
  exact codes_no (h d hd).rg
theorem wordS_len (d : List Int) : (wordS d).length = d.length := by
  rw [TL.len_tl, tl_wordS]
  exact List.length_map _
theorem joinL_len (s : List Nat) (m : Nat) : ∀ {l : List (List Nat)}, (∀ x ∈ l, x.length ≤ m) → (TL.joinL s l).length ≤ (m + s.length) * l.length
  | [], _ => Nat.zero_le _
  | [x], h => by
    have := h x List.mem_cons_self
    show x.length ≤ (m + s.length) * 1
    omega
  | x :: y :: r, h => by
    have h1 := h x List.mem_cons_self
    have h2 := joinL_len s m (l := y :: r) fun z hz => h z (List.mem_cons_of_mem _ hz)
    show (x ++ (s ++ TL.joinL s (y :: r))).length ≤ _
    rw [List.length_append, List.length_append, List.length_cons, Nat.mul_succ]
    omega
theorem note_len {ds : List (List Int)} (h3 : ds.length ≤ 3) (h : ∀ d ∈ ds, IsBar 5 d) : (noteS ds).length ≤ 18 := by
  rw [TL.len_tl, tl_noteS]
  have := joinL_len [32] 5 (l := ds.map codesW) fun x hx => by
    obtain ⟨d, hd, rfl⟩ := List.mem_map.mp hx
    have := (h d hd).le
    unfold codesW
    rw [List.length_map]
    omega
  rw [List.length_map] at this
  show _ ≤ _
  have e : ([32] : List Nat).length = 1 := rfl
  rw [e] at this
  omega
theorem note_ne {ds : List (List Int)} (hne : ds ≠ []) (h : ∀ d ∈ ds, IsBar 5 d) : noteS ds ≠ Str.ofString "" := fun e => by
  have e1 := congrArg TL.tl e
  rw [tl_noteS, show TL.tl (Str.ofString "") = [] from by decide +kernel] at e1
  cases ds with
  | nil => exact hne rfl
  | cons d r =>
    have hd := (h d List.mem_cons_self).ne
    cases d with
    | nil => exact absurd hd (by decide)
    | cons x d =>
      cases r with
      | nil => cases e1
      | cons _ _ => cases e1
/-! ### over a text's signs -/
theorem for_str {x : Str} {g : TG} {tb : TS} {D : Ends} {σ : L2.St} {H : Hp} (Pv : Nat → L2.St → Hp → Prop) (h0 : Pv 0 σ H)
    (hs : ∀ i c σ H, (TL.tl x)[i]? = some c → Pv i σ H → g (.str ⟨#[c]⟩) σ H fun σ2 H2 => tb { D with nx := Pv (i + 1), ct := Pv (i + 1), bk := D.nx } σ2 H2) (hd : ∀ σ H, Pv (TL.tl x).length σ H → D.nx σ H) :
    ∃ W : Nat → Nat → L2.St → Hp → Prop, (∃ m, W 0 m σ H) ∧ ∀ i m σ H, W i m σ H →
      ((Its x).stop i H ∧ D.nx σ H) ∨ ((Its x).go i H ∧ ∃ N : L2.St → Hp → Prop, (∀ σ' H', N σ' H' → ∃ m', m' < m ∧ W (i + 1) m' σ' H') ∧ ∀ v H', (Its x).yld i H v H' → g v σ H' fun σ2 H2 => tb { D with nx := N, ct := N, bk := D.nx } σ2 H2) := by
  have hsz : x.cps.size = (TL.tl x).length := by simp [TL.tl]
  refine ⟨fun i m σ H => m = (TL.tl x).length - i ∧ i ≤ (TL.tl x).length ∧ Pv i σ H, ⟨(TL.tl x).length, by simp, Nat.zero_le _, h0⟩, ?_⟩
  rintro i m σ H ⟨rfl, hi, p⟩
  by_cases hlt : i < (TL.tl x).length
  · refine .inr ⟨by show i < x.cps.size; omega, Pv (i + 1), fun σ' H' p' => ⟨(TL.tl x).length - (i + 1), by omega, rfl, hlt, p'⟩, fun v H' y => ?_⟩
    obtain ⟨e, c, hc, rfl⟩ := y
    subst e
    exact hs i c σ _ (by rw [← hc]; simp [TL.tl]) p
  · have e : i = (TL.tl x).length := by omega
    subst e
    exact .inl ⟨by show x.cps.size ≤ _; omega, hd σ H p⟩
theorem lc_str {x : Str} {g : TG} {tt : TT} {te : TE} {vs : List Nat} {σ : L2.St} {H1 : Hp} {D : Addr} {Qd : Hp → Prop} (Pv : Nat → Hp → Prop) (h0 : Pv 0 (upd H1 D (.lst [])))
    (hs : ∀ i c H, (TL.tl x)[i]? = some c → Pv i H → g (.str ⟨#[c]⟩) (wipe σ vs) H fun σ2 H2 => wipe σ2 vs = wipe σ vs ∧ tt σ2 H2 fun b H3 =>
      if b = true then te σ2 H3 fun y H4 => ∃ acc, H4 D = some (.lst acc) ∧ acc.length < sizeLine ∧ Pv (i + 1) (upd H4 D (.lst (acc ++ [y]))) else Pv (i + 1) H3) (hd : ∀ H, Pv (TL.tl x).length H → Qd H) :
    ∃ W : Nat → Nat → Hp → Prop, (∃ m, W 0 m (upd H1 D (.lst []))) ∧ ∀ i m H, W i m H →
      ((Its x).stop i H ∧ Qd H) ∨ ((Its x).go i H ∧ ∃ Nx : Hp → Prop, (∀ H', Nx H' → ∃ m', m' < m ∧ W (i + 1) m' H') ∧ ∀ v H', (Its x).yld i H v H' → g v (wipe σ vs) H' fun σ2 H2 => wipe σ2 vs = wipe σ vs ∧ tt σ2 H2 fun b H3 =>
        if b = true then te σ2 H3 fun y H4 => ∃ acc, H4 D = some (.lst acc) ∧ acc.length < sizeLine ∧ Nx (upd H4 D (.lst (acc ++ [y]))) else Nx H3) := by
  have hsz : x.cps.size = (TL.tl x).length := by simp [TL.tl]
  refine ⟨fun i m H => m = (TL.tl x).length - i ∧ i ≤ (TL.tl x).length ∧ Pv i H, ⟨(TL.tl x).length, by simp, Nat.zero_le _, h0⟩, ?_⟩
  rintro i m H ⟨rfl, hi, p⟩
  by_cases hlt : i < (TL.tl x).length
  · refine .inr ⟨by show i < x.cps.size; omega, Pv (i + 1), fun H' p' => ⟨(TL.tl x).length - (i + 1), by omega, rfl, hlt, p'⟩, fun v H' y => ?_⟩
    obtain ⟨e, c, hc, rfl⟩ := y
    subst e
    exact hs i c _ (by rw [← hc]; simp [TL.tl]) p
  · have e : i = (TL.tl x).length := by omega
    subst e
    exact .inl ⟨by show x.cps.size ≤ _; omega, hd H p⟩
theorem pe_joinK {X : Cx} {K : PySem.W.Frag} {o e : Expr} {to te : TE} {apos pos : Pos} (ho : PE X o to) (he : PE X e te) (hs : starEach [e] X.env = [(false, eval e X.env)] := by rfl) (hbase : attributeBase o "join" X.env (eval o X.env) = eval o X.env := by rfl) (hline : (apos.endLine == pos.line) = true := by rfl) (hK : X.K = K := by rfl) :
    PE X (.Call (.Attribute o "join" apos) [e] [] pos) (tM1 (fun x xs H Q => ∃ a p, ∃ ys : List Str, x = .str a ∧ xs = [.ref p] ∧ (SqL K H p (ys.map V.str) ∨ SqT K H p (ys.map V.str)) ∧
      (ys.map (·.length)).sum + ys.length * a.length ≤ 16777216 ∧ Q (.str (Txt.join a ys)) H) to te) := by subst hK; exact pe_join ho he hs hbase hline
/-! ### errors of own classes -/
/-- nothing is let out around a body -/
theorem nobodyN {X : Cx} : L2N.Takes X (fun _ _ _ _ => False) := fun u s' x => by
  obtain ⟨_, _, _, _, _, _, _, _, _, _, _, _, _, _, _, _, no⟩ := x
  exact False.elim no
section
variable {P : Program} {w : World} {K : PySem.W.Frag} {mg : Str → Option Value} {base : Heap}
/-- a def that lets errors (with no context) out -/
theorem okN {x qual : Str} {st : Stmt} {f : Addr} {fd : FuncData} {N ps : List Str} {k : Nat} {sp : Sp} (F : Fun K x qual st f fd) (S : FnScope N ps (defScope st)) (len : ∀ vs H Q E, sp vs H Q E → vs.length = ps.length)
    (body : ∀ (cdv : Value) (A : Around) (outer : List Env) (s : Shared) (H : Hp) (vs : List V) (Q : VK) (E : XK), Room k (A.deeper (envOfC qual (defScope st) s.heap.objs.size f cdv)) → sp vs H Q E →
      ∃ t, PSs (cxOf (L2N.CX P w) P w K mg base N qual (defScope st) f cdv A outer s H E) (defBody st) t ∧ t { nx := fun _ H2 => Q .non H2, rt := Q } (start N vs) H) : FnOk P w K mg base (L2N.CX P w) (k + 1) f fd ps sp := by
  obtain ⟨_, _, _, _, _, _, cdv, _, _, rfl, lk, cd⟩ := F.ex
  exact fn_of lk cd S len fun A outer s H vs Q E r h => body cdv A outer s H vs Q E r h
end
/-- a call of a def that may let an error out, its slots known -/
theorem pe_cS {X : Cx} {W : WX} {k j : Nat} {x : Str} {ps : List Str} {sp : Sp} {e : Expr} {es : List Expr} {t : TA} {p pos : Pos} (C : Cal X.prog X.w X.K X.mg X.base (L2N.CX X.prog X.w) k x ps sp) (hr : Room j X.A) (hj : k ≤ j) (tk : L2N.Takes X W) (ha : PA X (e :: es) t)
    (hg : Gl X x := by rfl) (hdb : (x == ("__debug__" : Str)) = false := by decide) (he : starEach (e :: es) X.env = (false, eval e X.env) :: starEach es X.env := by rfl) (hpl : (backTo pos (starEach es X.env)).any (·.1) = false := by rfl) :
    PE X (.Call (.Name x p) (e :: es) [] pos) (tCallS sp (WE W) t) := by
  obtain ⟨f, fd, F, gm, kp, bd⟩ := C.ex
  exact pe_callS F (hr.mono hj) hg gm kp bd (fun σ => L2N.passAt tk σ) ha hdb he hpl
/-- what the written part says of an error class D below cB -/
structure Own (K : PySem.W.Frag) (mg : Str → Option Value) (x : Str) (cB D : Addr) : Prop where
  g : mg x = some (.ref D)
  x : PySem.W.excIn K D [.type "ValueError", .type "Exception", .type "BaseException", .type "object"] "ValueError.__new__" = true
  kp : PySem.W.keepIn K (.ref D) = true
  b : PySem.W.subIn K (.ref D) (.type "BaseException") = some true
  ty : PySem.W.typeIn K (.ref D) = some (.type "type")
  m : PySem.W.exmOne K (.ref D) (.ref cB) = some true
/-- raise D('..') -/
theorem ps_own {X : Cx} {W : WX} {K : PySem.W.Frag} {mg : Str → Option Value} {x m : Str} {cB D : Addr} {j : Nat} {p p2 pos pos2 : Pos} (hc : X.calm = true) (T : Own K mg x cB D) (tk : L2N.Takes X W) (hK : X.K = K := by rfl) (hm : X.mg = mg := by rfl) (hg : Gl X x := by rfl)
    (hdb : (x == ("__debug__" : Str)) = false := by decide) : PS X (.Raise (some (.Call (.Name x p) [.Constant (.str m) j p2] [] pos)) none pos2) (fun _ σ H => W (.ref D) none σ H) := by
  subst hK hm
  exact L2N.ps_raise hc tk (L2N.pmk_own PySem.F.excBase_ValueError T.x T.g T.kp (raises_own T.b T.ty) hg hdb)
/-! ### isinstance of the error that an except clause holds -/
theorem call_isP {X : Cx} {K : PySem.W.Frag} {p : Addr × Obj} {D : Addr} (C : ExcC K D) (hp : p ∈ X.pn) (hc : p.2.cls = .ref D) (hd : p.2.dict = none) (hf : ∃ vs, p.2.data = .fields vs) (hK : X.K = K := by rfl) : CallR X (.builtin "isinstance") (rIsE K D p.1) := by
  subst hK
  intro pins s σ H xs us Q I r h
  obtain ⟨a, oe⟩ := p
  obtain ⟨c, cv, b, rfl, same, e, q⟩ := h
  obtain _ | ⟨rx, _ | ⟨rt, _ | _⟩⟩ := r
  cases rx
  have ec := same _ rt
  subst ec
  have at0 := (I.pin (a, oe) (List.mem_append_left _ hp)).1
  have J : PySem.W.InstAt s.heap a oe D none := by
    obtain ⟨vs, ed⟩ := hf
    obtain ⟨o1, o2, o3, o4⟩ := oe
    dsimp only at hc hd ed at0
    subst hc hd ed
    exact ⟨at0, rfl, rfl, trivial⟩
  refine PySem.W.kia_one (PySem.W.handS_kitx_exc C.hg C.hk C.hs C.hd C.ha C.hn C.ht C.hm) I.kIn J e (fun z => nomatch z) fun tk => ?_
  exact ⟨.bl b, H, I.kept (t' := tk) fun _ _ z => z, rfl, q⟩
/-! ### list.count of bools -/
theorem countB {l : List Bool} : ∀ {its : List Value}, Vals (l.map V.bl) its → its = l.map Value.bool := by
  induction l with
  | nil => intro its r; cases r; rfl
  | cons b l ih =>
    intro its r
    cases r with
    | cons rb rr =>
      cases rb
      rw [ih rr]
      rfl
theorem mt_bcount {X : Cx} {K : PySem.W.Frag} (hK : X.K = K := by rfl) : MtR X "list.count" (fun x xs H Q => ∃ (p : Addr) (bs : List Bool) (k : Bool), x = .ref p ∧ xs = [.bl k] ∧ SqL K H p (bs.map V.bl) ∧ Q (.int (bs.countP (· == k) : Nat)) H) := by
  subst hK
  intro pins s σ H x xs v us Q I rx rxs h
  obtain ⟨p, bs, k, rfl, rfl, hs, q⟩ := h
  cases rx
  obtain ⟨u, rfl, ru⟩ := rxs.one
  cases ru
  obtain ⟨its, rv, ⟨⟨c1, c2, c3, c4⟩, n, ho, hc, hdn, hd⟩, _⟩ := I.list hs
  simp only at hc hd
  subst hc hd
  have ei := countB rv
  subst ei
  refine call_meets PySem.F.slot_list_count ⟨_, ho, rfl⟩ PySem.F.entry_list_count (PySem.F.args_list_count_2 _ _)
    (SeqAt.list_countAt p (bs.map Value.bool).toArray n c2 c4 (.bool k) (fun y => match y with | .bool b => b == k | _ => false)) ⟨ho, fun y hy => ?_, ?_⟩
  · obtain ⟨b, _, rfl⟩ := List.mem_map.mp (show y ∈ bs.map Value.bool by simpa using hy)
    exact PySem.SeqAt.EqAt.bool_bool b k
  · refine ⟨.int (bs.countP (· == k) : Nat), H, I.tok _, ⟨s.toks, ?_⟩, q⟩
    show Value.int (((bs.map Value.bool).countP _ : Nat) : Int) s.toks = _
    rw [List.countP_map]
    rfl
/-! ### a def that is called with the error that an except clause holds -/
/-- its promise may speak of the error's object -/
structure FnE (P : Program) (w : World) (K : PySem.W.Frag) (mg : Str → Option Value) (base : Heap) (k : Nat) (f : Addr) (fd : FuncData) (ps : List Str) (sp : Addr × Obj → Sp) : Prop where
  size : ∀ p vs H Q E, sp p vs H Q E → vs.length = ps.length
  go : ∀ (p : Addr × Obj) (A : Around) (outer : List Env) (s : Shared) (H : Hp) (args : Args) (us : List Value) (vs : List V) (Q : VK) (E : XK), L2H.RoomH k A → L2H.Hot1 A p → L2H.PinOk outer H s p → Env0 P w K mg base A outer s H →
    BindsTo s fd args (ps.zip us) → Vals vs us → sp p vs H Q E → codeAny (model P w) A (.call (.ref f) args) (CR CX0 outer P w H s Q E) s
section
variable {P : Program} {w : World} {K : PySem.W.Frag} {mg : Str → Option Value} {base : Heap}
theorem okE {x qual : Str} {st : Stmt} {f : Addr} {fd : FuncData} {N ps : List Str} {k : Nat} {sp : Addr × Obj → Sp} (F : Fun K x qual st f fd) (S : FnScope N ps (defScope st)) (size : ∀ p vs H Q E, sp p vs H Q E → vs.length = ps.length)
    (body : ∀ (cdv : Value) (A : Around) (outer : List Env) (s : Shared) (H : Hp) (vs : List V) (Q : VK) (E : XK) (p : Addr × Obj), L2H.Hot1 A p → L2H.RoomH k (A.deeper (envOfC qual (defScope st) s.heap.objs.size f cdv)) → sp p vs H Q E →
      ∃ t, PSs (L2H.cxH CX0 P w K mg base N qual (defScope st) f cdv A outer s H E p) (defBody st) t ∧ t { nx := fun _ H2 => Q .non H2, rt := Q } (start N vs) H) : FnE P w K mg base (k + 1) f fd ps sp := by
  obtain ⟨_, _, _, _, _, _, cdv, _, _, rfl, lk, cd⟩ := F.ex
  refine ⟨size, ?_⟩
  intro p A outer s H args us vs Q E room hot pin env bt rv hsp
  have KX := env.mod.kin.keeps fun b o e => (env.bs b o e).1
  have NL := env.mod.nolimit.keeps fun b o e => (env.bs b o e).1
  refine codeAny_call_function room.depth (KX _ _ lk) rfl S.co S.gen rfl (PySem.W.codeRec_of KX cd) (bt _ _ _ _ ?_)
  refine wpAny_newFunctionEnv_cells S.kind (fun ⟨n, v⟩ hy => ?_) fun en een s1 x => ?_
  · cases S.par n (List.of_mem_zip hy).1 with
    | inl q => exact .inl q
    | inr q => exact .inr ⟨q, PySem.W.cellsFrom_some _ _ _ (.inl q)⟩
  · subst een
    refine ⟨NL.keeps x.toInCall.keep, codeAny_func ?_⟩
    obtain ⟨t, run, q0⟩ := body cdv A outer s H vs Q E p hot (room.deeper _) hsp
    have I := L2H.inv_startH (CX := CX0) (E := E) S pin env (size _ _ _ _ _ hsp) rv x
    refine wpAny_mono (run.run [] s1 (start N vs) H _ I q0) (fun fl s2 hs => ?_) fun _ _ z => z
    match fl, hs with
    | .ret _, ⟨v, _, H2, J, r, q⟩ => exact ⟨v, H2, J.os, J.bare, J.base, J.hok, r, q⟩
    | .next, ⟨_, H2, J, q⟩ => exact ⟨V.non, H2, J.os, J.bare, J.base, J.hok, rfl, q⟩
    | .brk, ⟨_, _, _, q⟩ => exact False.elim q
    | .cont, ⟨_, _, _, q⟩ => exact False.elim q
end
structure CalE (P : Program) (w : World) (K : PySem.W.Frag) (mg : Str → Option Value) (base : Heap) (k : Nat) (x : Str) (ps : List Str) (sp : Addr × Obj → Sp) : Prop where
  ex : ∃ (f : Addr) (fd : FuncData), FnE P w K mg base k f fd ps sp ∧ mg x = some (.ref f) ∧ PySem.W.keepIn K (.ref f) = true ∧ Binds K fd ps []
def tCallE (sp : Addr × Obj → Sp) (p : Addr × Obj) (t : TA) : TE := fun σ H Q => t σ H fun vs H1 => sp p vs H1 Q E0
theorem pe_cE {X : Cx} {k j : Nat} {x : Str} {ps : List Str} {sp : Addr × Obj → Sp} {q : Addr × Obj} {e : Expr} {es : List Expr} {t : TA} {p pos : Pos} (C : CalE X.prog X.w X.K X.mg X.base k x ps sp) (hr : L2H.RoomH j X.A) (hj : k ≤ j) (hot : L2H.Hot1 X.A q) (hq : q ∈ X.pn) (ha : PA X (e :: es) t)
    (hg : Gl X x := by rfl) (hdb : (x == ("__debug__" : Str)) = false := by decide) (he : starEach (e :: es) X.env = (false, eval e X.env) :: starEach es X.env := by rfl) (hpl : (backTo pos (starEach es X.env)).any (·.1) = false := by rfl) :
    PE X (.Call (.Name x p) (e :: es) [] pos) (tCallE sp q t) := by
  obtain ⟨f, fd, F, gm, kp, bd⟩ := C.ex
  constructor
  intro pins s σ H Q I h
  refine wpAny_Call_Name_kw (ld_glob I hg gm ?_ hdb)
  refine PySem.W.callWith_K (h₀ := X.base) I.ok.mod.kin kp (thn (ha.run pos pins s σ H _ I h) fun us s1 ⟨vs, H1, I1, r, z⟩ => ⟨I1.kIn, ?_⟩) he hpl
  have bl := bd s1 us I1.kIn (by rw [List.append_nil, ← r.length]; exact F.size _ _ _ _ _ z)
  rw [List.append_nil] at bl
  obtain ⟨p1, p2, p3, p4, p5⟩ := I1.pin q (List.mem_append_left _ hq)
  refine wpAny_call (codeAny_mono (F.go q X.A X.stack s1 H1 ⟨us, []⟩ us vs Q E0 (hr.mono hj) hot ⟨p1, p2, fun hm => (List.mem_cons.mp (I1.stkSub q.1 hm)).elim p3 p4, p5⟩ I1.env0 bl r z) fun res s2 hz => ?_)
  match res, hz with
  | .error _, hz => exact False.elim hz
  | .ok (.ret _), hz => exact I1.after hz
  | .ok .next, hz => exact False.elim hz
  | .ok .brk, hz => exact False.elim hz
  | .ok .cont, hz => exact False.elim hz
/-- the four error classes; D is the i-th of them -/
structure Kind (K : PySem.W.Frag) (cs : Nat → Addr) (D : Addr) (i : Nat) : Prop where
  ex : ExcC K D
  v : PySem.W.kitOne K (.ref D) (.type "ValueError") = some true
  k : ∀ j, j < 4 → PySem.W.kitOne K (.ref D) (.ref (cs j)) = some (decide (i = j))
theorem hot_of {A : Around} {a : Addr} {oe : Obj} {cls : Value} {d : Option Addr} (z : L2N.Zn cls d oe) (f : ∃ vs, oe.data = .fields vs) (h : A.handled = some (.ref a)) : L2H.Hot1 A (a, oe) := by
  obtain ⟨vs, e⟩ := f
  exact ⟨h, vs, e, z.2.2 vs e⟩
def words : List Str := ["bar", "bite", "table", "note"]
/-- the four classes, and what stands above them -/
structure Kinds (K : PySem.W.Frag) (mg : Str → Option Value) (cs : Nat → Addr) (cB : Addr) : Prop where
  gB : mg "BiteError" = some (.ref cB)
  o0 : Own K mg "NoBar" cB (cs 0)
  o1 : Own K mg "NoBite" cB (cs 1)
  o2 : Own K mg "NoTable" cB (cs 2)
  o3 : Own K mg "NoNote" cB (cs 3)
  k : ∀ i, i < 4 → Kind K cs (cs i) i
/-- the four answers of isinstance -/
def ansL (i : Nat) : List Bool := [decide (i = 0), decide (i = 1), decide (i = 2), decide (i = 3)]
/-- _law_word_of(e), e the error in hand, of the i-th class -/
def sp_law_word_of (K : PySem.W.Frag) (cs : Nat → Addr) : Addr × Obj → Sp := fun p vs H Q _ => ∃ (D : Addr) (i : Nat) (wd : Str), vs = [.ref p.1] ∧ p.2.cls = .ref D ∧ p.2.dict = none ∧ Kind K cs D i ∧ i < 4 ∧ words[i]? = some wd ∧ ∀ H', Same H H' → Q (.str wd) H'
/-- _law_word_of(e) in an except clause that holds the error at a -/
def tWord (K : PySem.W.Frag) (cs : Nat → Addr) (a : Addr) (cls : Value) (d : Option Addr) (m : Nat) : TE := fun σ H Q => ∃ (D : Addr) (i : Nat) (wd : Str), σ[m]? = some (some (.ref a)) ∧ cls = .ref D ∧ d = none ∧ Kind K cs D i ∧ i < 4 ∧ words[i]? = some wd ∧ ∀ H', Same H H' → Q (.str wd) H'
theorem pe_word {X : Cx} {cs : Nat → Addr} {a : Addr} {oe : Obj} {cls : Value} {d : Option Addr} {pn : List (Addr × Obj)} {j k : Nat} {x : Str} {ps : List Str} {e : Expr} {m : Nat} {p pos : Pos} (C : CalE X.prog X.w X.K X.mg X.base k x ps (sp_law_word_of X.K cs)) (hr : Room j X.A) (hj : k ≤ j) (hz : L2N.Zn cls d oe) (hf : ∃ vs, oe.data = .fields vs)
    (ha : PA (X.suite a ((a, oe) :: pn)) [e] (tCons (tVar m) tNil)) (hg : Gl X x := by rfl) (hdb : (x == ("__debug__" : Str)) = false := by decide) (hs : starEach (e :: []) X.env = (false, eval e X.env) :: starEach [] X.env := by rfl) (hpl : (backTo pos (starEach [] X.env)).any (·.1) = false := by rfl) :
    PE (X.suite a ((a, oe) :: pn)) (.Call (.Name x p) [e] [] pos) (tWord X.K cs a cls d m) := by
  have go := pe_cE (X := X.suite a ((a, oe) :: pn)) (q := (a, oe)) (p := p) (pos := pos) C (j := j) ⟨hr.dp, hr.un⟩ hj (hot_of hz hf rfl) (.head _) ha hg hdb hs hpl
  refine ⟨fun pins s σ H Q I h => go.run pins s σ H Q I ?_⟩
  obtain ⟨z1, z2, _⟩ := hz
  obtain ⟨D, i, wd, es, ec, ed, kd, i4, hw, q⟩ := h
  exact ⟨_, es, D, i, wd, rfl, z1.trans ec, z2.trans ed, kd, i4, hw, q⟩
/-! ### good places -/
/-- what the law calls good -/
theorem good_mem {b : List Int} {r c x : Int} {k : Nat} (hk : r % (b.length : Int) = (k : Int)) (hx : b[k]? = some x) :
    [r, c] ∈ (bitesL b).map pr ↔ (0 ≤ r ∧ r < b.length) ∧ (0 ≤ c ∧ c < x) ∧ r + c > 0 := by
  constructor
  · intro h
    obtain ⟨⟨i, j⟩, hp, e⟩ := List.mem_map.mp h
    have e : [(i : Int), (j : Int)] = [r, c] := e
    injection e with e1 e2
    injection e2 with e2 _
    obtain ⟨y, hy, h1, h2⟩ := mem_bitesL.mp hp
    have hi : i < b.length := (List.getElem?_eq_some_iff.mp hy).1
    have e3 : r % (b.length : Int) = r := Int.emod_eq_of_lt (by omega) (by omega)
    have e4 : k = i := by omega
    rw [e4] at hx
    have hy : b[i]? = some y := hy
    rw [hx] at hy
    have := Option.some.inj hy
    have h1 : (j : Int) < y := h1
    have h2 : 0 < i + j := h2
    refine ⟨⟨by omega, by omega⟩, ⟨by omega, by omega⟩, by omega⟩
  · rintro ⟨⟨h1, h2⟩, ⟨h3, h4⟩, h5⟩
    have e3 : r % (b.length : Int) = r := Int.emod_eq_of_lt h1 h2
    have er : r = (k : Int) := by omega
    have ec : c = ((c.toNat : Nat) : Int) := by omega
    rw [er, ec]
    refine pr_mem.mpr (mem_bitesL.mpr ⟨x, hx, by show ((c.toNat : Nat) : Int) < x; omega, by show 0 < k + c.toNat; omega⟩)
theorem four_at (a b c d : Int) {k : Int} (h0 : 0 ≤ k) (h1 : k < 4) : ∃ v : Int, atI [V.int a, V.int b, V.int c, V.int d] k = some (.int v) := by
  obtain ⟨n, rfl, h⟩ : ∃ n : Nat, k = (n : Int) ∧ n < 4 := ⟨k.toNat, by omega, by omega⟩
  match n, h with
  | 0, _ => exact ⟨a, atI_nat rfl⟩
  | 1, _ => exact ⟨b, atI_nat rfl⟩
  | 2, _ => exact ⟨c, atI_nat rfl⟩
  | 3, _ => exact ⟨d, atI_nat rfl⟩
/-! ### promises joined -/
section
variable {P : Program} {w : World} {K : PySem.W.Frag} {mg : Str → Option Value} {base : Heap} {k : Nat} {f : Addr} {fd : FuncData} {ps : List Str} {sp sp' : Sp}
/-- a def that lets nothing out, among those that may -/
theorem lift0 (F : FnOk P w K mg base CX0 k f fd ps sp) : FnOk P w K mg base (L2N.CX P w) k f fd ps (fun vs H Q _ => sp vs H Q E0) := by
  refine ⟨fun vs H Q E h => F.len vs H Q E0 h, fun A outer s H args us vs Q E hr e0 hb r h => ?_⟩
  refine codeAny_mono (F.run A outer s H args us vs Q E0 hr e0 hb r h) fun res s' hz => ?_
  match res, hz with
  | .error _, hz => exact False.elim hz
  | .ok (.ret _), hz => exact hz
  | .ok .next, hz => exact hz
  | .ok .brk, hz => exact hz
  | .ok .cont, hz => exact hz
theorem two (F : FnOk P w K mg base (L2N.CX P w) k f fd ps sp) (G : FnOk P w K mg base (L2N.CX P w) k f fd ps sp') : FnOk P w K mg base (L2N.CX P w) k f fd ps (fun vs H Q E => sp vs H Q E ∨ sp' vs H Q E) := by
  refine ⟨fun vs H Q E h => ?_, fun A outer s H args us vs Q E hr e0 hb r h => ?_⟩
  · rcases h with h | h
    · exact F.len vs H Q E h
    · exact G.len vs H Q E h
  · rcases h with h | h
    · exact F.run A outer s H args us vs Q E hr e0 hb r h
    · exact G.run A outer s H args us vs Q E hr e0 hb r h
end
/-- a def of one bar that asks for it first -/
def sp_xb (K : PySem.W.Frag) (cs : Nat → Addr) : Sp := fun vs H Q E => ∃ (a : Addr) (ns : List Int), vs = [.ref a] ∧ SqL K H a (ns.map V.int) ∧ (isBarB ns = true → ∀ v H', Same H H' → Q v H') ∧ (isBarB ns = false → E (.ref (cs 0)) none H)
def sp_badbar (K : PySem.W.Frag) (cs : Nat → Addr) : Sp := fun vs H _ E => ∃ (a : Addr) (ns : List Int), vs = [.ref a] ∧ SqL K H a (ns.map V.int) ∧ isBarB ns = false ∧ E (.ref (cs 0)) none H
/-- a table that is good, or bad by its bars, or bad by its length -/
def TCase (ds : List (List Int)) (o : Option Nat) : Prop := (o = none ∧ IsTable ds) ∨ (o = some 0 ∧ ds.length ≤ 3 ∧ ∃ d ∈ ds, isBarB d = false) ∨ (o = some 2 ∧ 3 < ds.length)
def sp_xt (K : PySem.W.Frag) (cs : Nat → Addr) : Sp := fun vs H Q E => ∃ (T : Addr) (xs : List V) (ds : List (List Int)) (o : Option Nat), vs = [.ref T] ∧ H T = some (.lst xs) ∧ LL H xs ds ∧ TCase ds o ∧ (o = none → ∀ v H', Same H H' → Q v H') ∧ (∀ i, o = some i → ∀ H', Same H H' → E (.ref (cs i)) none H')
def sp_badtable (K : PySem.W.Frag) (cs : Nat → Addr) : Sp := fun vs H _ E => ∃ (T : Addr) (xs : List V) (ds : List (List Int)) (i : Nat), vs = [.ref T] ∧ H T = some (.lst xs) ∧ LL H xs ds ∧ TCase ds (some i) ∧ ∀ H', Same H H' → E (.ref (cs i)) none H'
/-! ### the text -/
def topS (i : Nat) : Stmt := PySem.Challenge.pw_bitebar_k13_refused.main.body.getD i (.Pass ⟨0, 0, 0, 0⟩)
abbrev s_is_bar : Stmt := topS 9
abbrev N_is_bar : List Str := ["bar", "before", "pieces"]
theorem sc_is_bar : FnScope N_is_bar ["bar"] (defScope s_is_bar) := ⟨rfl, rfl, rfl, by decide +kernel, rfl, by decide +kernel, by decide +kernel⟩
section
variable {P : Program} {w : World} {K : PySem.W.Frag} {mg : Str → Option Value} {base : Heap}
/-- is_bar(bar) -/
def sp_is_bar (K : PySem.W.Frag) : Sp := fun vs H Q _ => ∃ (a : Addr) (ns : List Int), vs = [.ref a] ∧ SqL K H a (ns.map V.int) ∧ Q (.bl (isBarB ns)) H
theorem ok_is_bar {f : Addr} {fd : FuncData} (F : Fun K "is_bar" "is_bar" s_is_bar f fd) (m_len : mg "len" = none) {t1 t2 : Tok} (g_MOST_ROWS : mg "MOST_ROWS" = some (.int 5 t1)) (g_MOST_PIECES : mg "MOST_PIECES" = some (.int 5 t2)) :
    FnOk P w K mg base CX0 1 f fd ["bar"] (sp_is_bar K) := by
  refine F.ok sc_is_bar (fun vs H Q E h => ?_) (fun cdv A outer s H vs Q E hr h => ?_)
  · obtain ⟨a, ns, rfl, _⟩ := h
    rfl
  · obtain ⟨a, ns, rfl, hS, q⟩ := h
    have hl : (ns.map V.int).length = ns.length := List.length_map _
    refine ⟨_, (pss_cons (ps_if (PW.pt (pw_or (pt_cmpR op_lt (pe_callB (lenK (K := K)) (by rfl) m_len PySem.boot_len (pa_cons (pv 0) pa_nil)) pe_int (nomark _)) (pw_or1 (pt_cmpR op_gt (pe_callB (lenK (K := K)) (by rfl) m_len PySem.boot_len (pa_cons (pv 0) pa_nil)) (pe_glob (v := .int 5) (by rfl) g_MOST_ROWS ⟨_, rfl⟩) (nomark _)))))
        (pss_one (ps_ret pe_bl))
        pss_nil)
      (pss_cons (ps_set (i := 1) sc_is_bar.nd rfl (.inl rfl) (pe_glob (v := .int 5) (by rfl) g_MOST_PIECES ⟨_, rfl⟩))
      (pss_cons (ps_for PassesOwn.never rfl (pi_listK (K := K) (pv 0)) (pg_name (i := 2) sc_is_bar.nd rfl (.inl rfl))
        (pss_cons (ps_if (PW.pt (pw_or (pt_cmpR op_lt (pv 2) pe_int (nomark _)) (pw_or1 (pt_cmpR op_gt (pv 2) (pv 1) (nomark _)))))
          (pss_one (ps_ret pe_bl))
          pss_nil)
        (pss_one (ps_set (i := 1) sc_is_bar.nd rfl (.inl rfl) (pv 2)))))
      (pss_one (ps_ret pe_bl))))), ?_⟩
    refine ⟨_, rfl, a, _, rfl, .inl hS, _, _, rfl, rfl, _, rfl, ite2 (fun c => iteT ?_) (fun c => ?_)⟩
    · have c' := of_decide_eq_true c
      rw [hl] at c'
      have e : isBarB ns = false := by
        unfold isBarB
        rw [decide_eq_false (by omega), Bool.false_and]
      rw [e] at q
      exact q
    · refine ⟨_, rfl, a, _, rfl, .inl hS, _, _, rfl, rfl, _, rfl, ite2 (fun c2 => ?_) (fun c2 => ?_)⟩
      · have c' := of_decide_eq_true c2
        rw [hl] at c'
        have e : isBarB ns = false := by
          unfold isBarB
          rw [decide_eq_false (by omega), Bool.false_and]
        rw [e] at q
        exact q
      · have c1 := of_decide_eq_false (Bool.eq_false_iff.mpr c)
        have c2 := of_decide_eq_false (Bool.eq_false_iff.mpr c2)
        rw [hl] at c1 c2
        have e : isBarB ns = falls 5 ns := by
          unfold isBarB
          rw [decide_eq_true (by omega), Bool.true_and]
        rw [e] at q
        refine ⟨_, rfl, a, rfl, ⟨_, hS⟩, for_list (K := K) (a := a) (xs := ns.map V.int) (fun i σ H' => ∃ (m : Int) (v : Option V), σ = [some (.ref a), some (.int m), v] ∧ H' = H ∧ falls 5 ns = falls m (ns.drop i))
          ⟨5, none, rfl, rfl, rfl⟩ (fun i σ H' _ ⟨_, _, _, e, _⟩ => e ▸ hS) ?_ ?_⟩
        · rintro i y σ H' hi ⟨m, v, rfl, rfl, ef⟩
          obtain ⟨z, hz, rfl⟩ := map_get hi
          have hd : ns.drop i = z :: ns.drop (i + 1) := by
            obtain ⟨hi', e⟩ := List.getElem?_eq_some_iff.mp hz
            rw [List.drop_eq_getElem_cons hi', e]
          rw [hd, falls] at ef
          refine ⟨_, rfl, _, _, rfl, rfl, _, rfl, ite2 (fun c => iteT ?_) (fun c => ?_)⟩
          · have c' := of_decide_eq_true c
            rw [decide_eq_false (by omega), Bool.false_and] at ef
            rw [ef] at q
            exact q
          · refine ⟨_, rfl, _, rfl, _, _, rfl, rfl, _, rfl, ite2 (fun c2 => ?_) (fun c2 => ?_)⟩
            · have c' := of_decide_eq_true c2
              rw [decide_eq_false (by omega), Bool.false_and] at ef
              rw [ef] at q
              exact q
            · have c3 := of_decide_eq_false (Bool.eq_false_iff.mpr c)
              have c4 := of_decide_eq_false (Bool.eq_false_iff.mpr c2)
              rw [decide_eq_true (by omega), Bool.true_and] at ef
              exact ⟨_, rfl, z, some (.int z), rfl, rfl, ef⟩
        · rintro σ H' ⟨m, v, rfl, rfl, ef⟩
          rw [hl, List.drop_length, falls] at ef
          rw [ef] at q
          exact q
end
abbrev s_asked_bar : Stmt := topS 10
abbrev N_asked_bar : List Str := ["bar"]
theorem sc_asked_bar : FnScope N_asked_bar ["bar"] (defScope s_asked_bar) := ⟨rfl, rfl, rfl, by decide +kernel, rfl, by decide +kernel, by decide +kernel⟩
section
variable {P : Program} {w : World} {K : PySem.W.Frag} {mg : Str → Option Value} {base : Heap}
/-- asked_bar(bar), good bars -/
def sp_asked_bar (K : PySem.W.Frag) : Sp := fun vs H Q _ => ∃ (a : Addr) (ns : List Int), vs = [.ref a] ∧ SqL K H a (ns.map V.int) ∧ isBarB ns = true ∧ Q .non H
theorem ok_asked_bar {f : Addr} {fd : FuncData} (F : Fun K "asked_bar" "asked_bar" s_asked_bar f fd) (C_is_bar : Cal P w K mg base CX0 1 "is_bar" ["bar"] (sp_is_bar K)) :
    FnOk P w K mg base CX0 2 f fd ["bar"] (sp_asked_bar K) := by
  refine F.ok sc_asked_bar (fun vs H Q E h => ?_) (fun cdv A outer s H vs Q E hr h => ?_)
  · obtain ⟨a, ns, rfl, _⟩ := h
    rfl
  · obtain ⟨a, ns, rfl, hS, hb, q⟩ := h
    refine ⟨_, (pss_one (ps_if (pt_not (pt_val (pe_c C_is_bar hr (by decide) pass0 (pa_cons (pv 0) pa_nil))))
        (pss_one ps_never)
        pss_nil)), ?_⟩
    refine ⟨_, rfl, a, ns, rfl, hS, _, rfl, ?_⟩
    rw [hb]
    exact iteF q
end
section
variable {P : Program} {w : World} {K : PySem.W.Frag} {mg : Str → Option Value} {base : Heap}
/-- asked_bar(bar), any list of ints -/
theorem okx_asked_bar {f : Addr} {fd : FuncData} (F : Fun K "asked_bar" "asked_bar" s_asked_bar f fd) (C_is_bar : Cal P w K mg base CX0 1 "is_bar" ["bar"] (sp_is_bar K)) {cs : Nat → Addr} {cB : Addr} (T_kinds : Kinds K mg cs cB) :
    FnOk P w K mg base (L2N.CX P w) 2 f fd ["bar"] (sp_xb K cs) := by
  refine okN F sc_asked_bar (fun vs H Q E h => ?_) (fun cdv A outer s H vs Q E hr h => ?_)
  · obtain ⟨a, ns, rfl, _⟩ := h
    rfl
  · obtain ⟨a, ns, rfl, hS, q, qe⟩ := h
    refine ⟨_, (pss_one (ps_if (pt_not (pt_val (pe_c C_is_bar hr (by decide) pass0 (pa_cons (pv 0) pa_nil))))
        (pss_one (ps_own rfl T_kinds.o0 (L2N.takes_of rfl rfl rfl rfl)))
        pss_nil)), ?_⟩
    refine ⟨_, rfl, a, ns, rfl, hS, _, rfl, ?_⟩
    rcases Bool.eq_false_or_eq_true (isBarB ns) with hb | hb
    · rw [hb]
      exact iteF (q hb _ H (Same.refl H))
    · rw [hb]
      exact iteT (qe hb)
end
abbrev s_bites_of : Stmt := topS 11
abbrev N_bites_of : List Str := ["bar", "found", "row", "column"]
theorem sc_bites_of : FnScope N_bites_of ["bar"] (defScope s_bites_of) := ⟨rfl, rfl, rfl, by decide +kernel, rfl, by decide +kernel, by decide +kernel⟩
section
variable {P : Program} {w : World} {K : PySem.W.Frag} {mg : Str → Option Value} {base : Heap}
/-- bites_of(bar): a new list of new tuples -/
def sp_bites_of (K : PySem.W.Frag) : Sp := fun vs H Q _ => ∃ (a : Addr) (ns : List Int), vs = [.ref a] ∧ SqL K H a (ns.map V.int) ∧ IsBar 5 ns ∧
  ∀ H' p xs, Same H H' → H p = none → H' p = some (.lst xs) → TL H' xs ((bitesL ns).map pr) → Q (.ref p) H'
theorem ok_bites_of {f : Addr} {fd : FuncData} (F : Fun K "bites_of" "bites_of" s_bites_of f fd) (m_len : mg "len" = none) (m_range : mg "range" = none) (m_int : mg "int" = none) :
    FnOk P w K mg base CX0 1 f fd ["bar"] (sp_bites_of K) := by
  refine F.ok sc_bites_of (fun vs H Q E h => ?_) (fun cdv A outer s H vs Q E hr h => ?_)
  · obtain ⟨a, ns, rfl, _⟩ := h
    rfl
  · obtain ⟨a, ns, rfl, hS, hb, q⟩ := h
    have hl : (ns.map V.int).length = ns.length := List.length_map _
    have hl5 : ns.length ≤ 5 := by have := hb.le; omega
    refine ⟨_, (pss_cons (ps_set (i := 1) sc_bites_of.nd rfl (.inl rfl) (pe_lst pa_nil))
      (pss_cons (ps_for PassesOwn.never rfl (pi_range1 (by rfl) m_range (pa_cons (pe_callB (lenK (K := K)) (by rfl) m_len PySem.boot_len (pa_cons (pv 0) pa_nil)) pa_nil)) (pg_name (i := 2) sc_bites_of.nd rfl (.inr rfl))
        (pss_one (ps_expr (pe_bmK (K := K) PySem.F.plainAttrs_list PySem.F.slot_list_extend PySem.F.type_list_extend mt_extend (pv 1) (pa_cons (pe_lc (own := [("column", 3)]) (g := gName 3) (tt := tYes) rfl sc_bites_of.nd (pi_range2 (by rfl) m_range (pa_cons (pe_callTy call_int1 (by rfl) m_int (by decide +kernel) (pa_cons (pe_cmpR op_eq (pv 2) pe_int (nomark _)) pa_nil)) (pa_cons (pe_ix (ixK (K := K)) (pv 0) (pv 2) (fun _ _ => rfl)) pa_nil))) (blkOk_by (N := N_bites_of) (sc := defScope s_bites_of) (by decide +kernel)) (fun _ _ _ _ _ => (pg_name (i := 3) sc_bites_of.nd rfl (.inl rfl))) (fun _ _ _ _ _ => pts_nil) (fun _ _ _ _ _ => (pe_tup (pa_cons (pv 2) (pa_cons (pv 3) pa_nil))))) pa_nil)))))
      (pss_one (ps_ret (pv 1))))), ?_⟩
    refine ⟨Nat.zero_le _, fun o no => ?_⟩
    have s1 : Same H (upd H o (.lst [])) := sNew no
    refine ⟨_, rfl, a, _, rfl, .inl (s1.seq hS), _, rfl, by rw [hl]; omega, by rw [hl]; omega,
      for_range (lo := 0) (fun i σ H' => ∃ (y2 : Option V) (xs : List V), σ = [some (.ref a), some (.ref o), y2, none] ∧ Same H H' ∧ H' o = some (.lst xs) ∧ TL H' xs ((bitesL (ns.take i)).map pr))
      ⟨none, [], rfl, s1, upd_same, TL.nil⟩ ?_ ?_⟩
    · rintro i σ H1 hi ⟨y2, xs, rfl, sm, ho, ht⟩
      rw [hl, Int.toNat_natCast] at hi
      have hz := List.getElem?_eq_getElem hi
      have hx := hb.rg ns[i] (List.getElem_mem hi)
      have hA : SqL K H1 a (ns.map V.int) := sm.seq hS
      rw [Int.zero_add]
      refine ⟨_, rfl, .inl ⟨rfl, _, SqL.of ho⟩, ?_⟩
      obtain ⟨L, eL, L1, rL, pL⟩ : ∃ L : Nat, (if decide (V.int (i : Int) = V.int 0) = true then (1 : Int) else 0) = (L : Int) ∧ L ≤ 1 ∧ rowL i L = [] ∧ 0 < i + L := by
        by_cases e : i = 0
        · subst e
          exact ⟨1, rfl, Nat.le_refl _, rfl, by omega⟩
        · refine ⟨0, if_neg ?_, Nat.zero_le _, rfl, by omega⟩
          intro z
          have := V.int.inj (of_decide_eq_true z)
          omega
      refine ⟨_, rfl, rfl, .inr ⟨_, rfl, ?_⟩⟩
      rw [eL]
      refine ⟨_, rfl, _, rfl, a, _, _, _, rfl, rfl, hA, at_map hz, _, _, rfl, ⟨by omega, by omega, by omega, by omega⟩, fun D nD => ?_⟩
      have oD : o ≠ D := ne_of_none ho nD
      refine lc_range (lo := (L : Int)) (n := (ns[i] - (L : Int)).toNat) (fun j H' => ∃ ys : List V, Same H1 H' ∧ H' D = some (.lst ys) ∧ TL H' ys ((rowL i (L + j)).map pr))
        ⟨[], sNew nD, upd_same, by rw [Nat.add_zero, rL]; exact TL.nil⟩ ?_ ?_
      · rintro j H2 hj ⟨ys, sm2, hD, ht2⟩
        refine ⟨rfl, yesT ?_⟩
        refine ⟨_, rfl, _, rfl, by show 2 ≤ sizeLine; decide, fun t nt => ?_⟩
        have Dt : D ≠ t := ne_of_none hD nt
        have k2 : KT H2 (upd H2 t (.tup [.int (i : Int), .int ((L : Int) + (j : Int))])) := KT.new nt
        have hD2 : upd H2 t (.tup [.int (i : Int), .int ((L : Int) + (j : Int))]) D = some (.lst ys) := by rw [upd_ne Dt]; exact hD
        have hlen : ys.length = (rowL i (L + j)).length := by rw [ht2.length, List.length_map]
        have hlen2 := rowL_len i (L + j)
        refine ⟨ys, hD2, small' (by omega), _, sPut (sThen sm2 nt) nD, upd_same, ?_⟩
        rw [← Nat.add_assoc, rowL, if_pos (by omega), List.map_append]
        refine TL.keep (KT.lst hD2) ((ht2.keep k2).snoc ?_)
        rw [upd_same]
        all_goals rfl
      · rintro H2 ⟨ys, sm2, hD, ht2⟩
        have eN : L + (ns[i] - (L : Int)).toNat = ns[i].toNat := by omega
        rw [eN] at ht2
        have ho2 := sm2 _ _ ho
        have hx1 : xs.length ≤ 25 := by
          rw [ht.length, List.length_map]
          exact bitesL_take_len hb i
        have hy1 : ys.length ≤ 5 := by
          have := rowL_len i ns[i].toNat
          rw [ht2.length, List.length_map]
          omega
        refine ⟨o, D, xs, ys, rfl, rfl, ho2, hD, small (by omega), ?_⟩
        refine ⟨some (.int (i : Int)), xs ++ ys, rfl, sPut (sm.trans sm2) no, upd_same, ?_⟩
        rw [bitesL_more hz, List.map_append]
        exact TL.keep (KT.lst ho2) ((ht.keep (KT.same sm2)).append ht2)
    · rintro σ H1 ⟨y2, xs, rfl, sm, ho, ht⟩
      rw [hl, Int.toNat_natCast, List.take_length] at ht
      exact ⟨_, rfl, q H1 o xs sm no ho ht⟩
end
abbrev s_bites : Stmt := topS 12
abbrev N_bites : List Str := ["bar"]
theorem sc_bites : FnScope N_bites ["bar"] (defScope s_bites) := ⟨rfl, rfl, rfl, by decide +kernel, rfl, by decide +kernel, by decide +kernel⟩
section
variable {P : Program} {w : World} {K : PySem.W.Frag} {mg : Str → Option Value} {base : Heap}
/-- bites(bar), good bars -/
def sp_bites (K : PySem.W.Frag) : Sp := fun vs H Q _ => ∃ (a : Addr) (ns : List Int), vs = [.ref a] ∧ SqL K H a (ns.map V.int) ∧ IsBar 5 ns ∧
  ∀ H' p xs, Same H H' → H p = none → H' p = some (.lst xs) → TL H' xs ((bitesL ns).map pr) → Q (.ref p) H'
theorem ok_bites {f : Addr} {fd : FuncData} (F : Fun K "bites" "bites" s_bites f fd) (C_asked_bar : Cal P w K mg base CX0 2 "asked_bar" ["bar"] (sp_asked_bar K)) (C_bites_of : Cal P w K mg base CX0 1 "bites_of" ["bar"] (sp_bites_of K)) :
    FnOk P w K mg base CX0 3 f fd ["bar"] (sp_bites K) := by
  refine F.ok sc_bites (fun vs H Q E h => ?_) (fun cdv A outer s H vs Q E hr h => ?_)
  · obtain ⟨a, ns, rfl, _⟩ := h
    rfl
  · obtain ⟨a, ns, rfl, hS, hb, q⟩ := h
    refine ⟨_, (pss_cons (ps_expr (pe_c C_asked_bar hr (by decide) pass0 (pa_cons (pv 0) pa_nil)))
      (pss_one (ps_ret (pe_c C_bites_of hr (by decide) pass0 (pa_cons (pv 0) pa_nil))))), ?_⟩
    exact ⟨_, rfl, a, ns, rfl, hS, isBarB_iff.mpr hb, _, rfl, a, ns, rfl, hS, hb, q⟩
end
section
variable {P : Program} {w : World} {K : PySem.W.Frag} {mg : Str → Option Value} {base : Heap}
/-- bites(bar), any list of ints -/
theorem okx_bites {f : Addr} {fd : FuncData} {cs : Nat → Addr} (F : Fun K "bites" "bites" s_bites f fd) (C_asked_bar : Cal P w K mg base CX0 2 "asked_bar" ["bar"] (sp_asked_bar K)) (C_bites_of : Cal P w K mg base CX0 1 "bites_of" ["bar"] (sp_bites_of K)) (X_asked_bar : Cal P w K mg base (L2N.CX P w) 2 "asked_bar" ["bar"] (sp_xb K cs)) : FnOk P w K mg base (L2N.CX P w) 3 f fd ["bar"] (sp_xb K cs) := by
  have bad : FnOk P w K mg base (L2N.CX P w) 3 f fd ["bar"] (sp_badbar K cs) := by
    refine okN F sc_bites (fun vs H Q E h => ?_) (fun cdv A outer s H vs Q E hr h => ?_)
    · obtain ⟨a, ns, rfl, _⟩ := h
      rfl
    · obtain ⟨a, ns, rfl, hS, hb, qe⟩ := h
      refine ⟨_, pss_cons (ps_expr (by exact (pe_cS X_asked_bar hr (by decide) (L2N.takes_of rfl rfl rfl rfl) (pa_cons (pv 0) pa_nil)))) pss_never, ?_⟩
      exact ⟨_, rfl, a, ns, rfl, hS, fun z => absurd (z.symm.trans hb) (by decide), fun _ => qe⟩
  refine (two (lift0 (ok_bites F C_asked_bar C_bites_of)) (bad.mono (by decide))).imp fun vs H Q E h => ?_
  obtain ⟨a, ns, rfl, hS, qg, qb⟩ := h
  rcases Bool.eq_false_or_eq_true (isBarB ns) with hb | hb
  · exact .inl ⟨a, ns, rfl, hS, isBarB_iff.mp hb, fun H' p _ s _ _ _ => qg hb _ H' s⟩
  · exact .inr ⟨a, ns, rfl, hS, hb, qb hb⟩
end
abbrev s_behind : Stmt := topS 13
abbrev N_behind : List Str := ["bar", "row", "column", "found", "pieces"]
theorem sc_behind : FnScope N_behind ["bar", "row", "column"] (defScope s_behind) := ⟨rfl, rfl, rfl, by decide +kernel, rfl, by decide +kernel, by decide +kernel⟩
section
variable {P : Program} {w : World} {K : PySem.W.Frag} {mg : Str → Option Value} {base : Heap}
/-- behind(bar, row, column): a new list -/
def sp_behind (K : PySem.W.Frag) : Sp := fun vs H Q _ => ∃ (a : Addr) (ns : List Int) (r c : Nat), vs = [.ref a, .int (r : Nat), .int (c : Nat)] ∧ SqL K H a (ns.map V.int) ∧ IsBar 5 ns ∧ (r, c) ∈ bitesL ns ∧
  ∀ H' p, Same H H' → H p = none → H' p = some (.lst ((behindL ns r c).map V.int)) → Q (.ref p) H'
theorem cut_take (xs : List V) (r : Nat) : cutV xs none (some (r : Int)) = xs.take r := by
  unfold cutV
  rw [HT.sIx_none, HT.sIx_nat, List.drop_zero, Nat.sub_zero]
  by_cases h : r ≤ xs.length
  · rw [Nat.min_eq_left h]
  · rw [Nat.min_eq_right (by omega), List.take_length, List.take_of_length_le (by omega)]
theorem cut_drop (xs : List V) (r : Nat) : cutV xs (some (r : Int)) none = xs.drop r := by
  unfold cutV
  rw [HT.sIx_none, HT.sIx_nat]
  by_cases h : r ≤ xs.length
  · rw [Nat.min_eq_left h, List.take_of_length_le (by rw [List.length_drop]; omega)]
  · rw [Nat.min_eq_right (by omega), List.drop_eq_nil_of_le (Nat.le_refl _), List.drop_eq_nil_of_le (by omega), List.take_nil]
theorem ok_behind {f : Addr} {fd : FuncData} (F : Fun K "behind" "behind" s_behind f fd) (m_list : mg "list" = none) (m_min : mg "min" = none) :
    FnOk P w K mg base CX0 1 f fd ["bar", "row", "column"] (sp_behind K) := by
  refine F.ok sc_behind (fun vs H Q E h => ?_) (fun cdv A outer s H vs Q E hr h => ?_)
  · obtain ⟨a, ns, r, c, rfl, _⟩ := h
    rfl
  · obtain ⟨a, ns, r, c, rfl, hS, ib, hm, q⟩ := h
    have hl5 : ns.length ≤ 5 := by have := ib.le; omega
    refine ⟨_, (pss_cons (ps_set (i := 3) sc_behind.nd rfl (.inl rfl) (pe_callTy (listK (K := K)) (by rfl) m_list (by decide +kernel) (pa_cons (pe_slice (slK (K := K)) (pv 0) po_none (po_some (pv 1))) pa_nil)))
      (pss_cons (ps_if (pt_cmpR op_gt (pv 2) pe_int (nomark _))
        (pss_one (ps_expr (pe_bmK (K := K) PySem.F.plainAttrs_list PySem.F.slot_list_extend PySem.F.type_list_extend mt_extend (pv 3) (pa_cons (pe_lc (own := [("pieces", 4)]) (g := gName 4) (tt := tYes) rfl sc_behind.nd (pi_listK (K := K) (pe_slice (slK (K := K)) (pv 0) (po_some (pv 1)) po_none)) (blkOk_by (N := N_behind) (sc := defScope s_behind) (by decide +kernel)) (fun _ _ _ _ _ => (pg_name (i := 4) sc_behind.nd rfl (.inl rfl))) (fun _ _ _ _ _ => pts_nil) (fun _ _ _ _ _ => (pe_callB (call_min2 rfl) (by rfl) m_min (by decide +kernel) (pa_cons (pv 4) (pa_cons (pv 2) pa_nil))))) pa_nil))))
        pss_nil)
      (pss_one (ps_ret (pv 3))))), ?_⟩
    refine ⟨_, rfl, _, rfl, (r : Int), rfl, a, _, rfl, hS, fun p1 n1 => ?_⟩
    rw [cut_take, ← List.map_take]
    refine ⟨p1, _, rfl, .inl (SqL.of upd_same), fun o no => ?_⟩
    have s1 : Same H (upd (upd H p1 (.lst ((ns.take r).map V.int))) o (.lst ((ns.take r).map V.int))) := sThen (sNew n1) no
    have ho : upd (upd H p1 (.lst ((ns.take r).map V.int))) o (.lst ((ns.take r).map V.int)) o = some (.lst ((ns.take r).map V.int)) := upd_same
    have no0 : H o = none := by
      cases e : H o with
      | none => rfl
      | some u =>
        have := sNew (o := .lst ((ns.take r).map V.int)) n1 o u e
        rw [no] at this
        cases this
    generalize upd (upd H p1 (.lst ((ns.take r).map V.int))) o (.lst ((ns.take r).map V.int)) = H1 at s1 ho ⊢
    refine ⟨_, rfl, _, _, rfl, rfl, _, rfl, ite2 (fun z => ?_) (fun z => ?_)⟩
    · have z' := of_decide_eq_true z
      refine ⟨_, rfl, .inl ⟨rfl, _, SqL.of ho⟩, ?_⟩
      refine ⟨_, rfl, _, rfl, (r : Int), rfl, a, _, rfl, s1.seq hS, fun p2 n2 => ?_⟩
      rw [cut_drop, ← List.map_drop]
      have s2 : Same H1 (upd H1 p2 (.lst ((ns.drop r).map V.int))) := sNew n2
      have h2 : upd H1 p2 (.lst ((ns.drop r).map V.int)) p2 = some (.lst ((ns.drop r).map V.int)) := upd_same
      generalize upd H1 p2 (.lst ((ns.drop r).map V.int)) = H2 at s2 h2 ⊢
      have ho2 := s2 _ _ ho
      refine ⟨p2, rfl, ⟨_, SqL.of h2⟩, fun D nD => ?_⟩
      refine lc_list (K := K) (a := p2) (xs := (ns.drop r).map V.int) (fun j H' => Same H2 H' ∧ H' D = some (.lst ((((ns.drop r).take j).map fun x => min x (c : Int)).map V.int))) ⟨sNew nD, upd_same⟩ (fun _ _ _ h => SqL.of (h.1 _ _ h2)) ?_ ?_
      · rintro j y H3 hj ⟨s3, hD⟩
        obtain ⟨u, hu, rfl⟩ := map_get hj
        refine ⟨rfl, yesT ?_⟩
        refine ⟨_, rfl, _, rfl, _, _, rfl, _, hD, ?_, sPut s3 nD, ?_⟩
        · rw [List.length_map, List.length_map, List.length_take, List.length_drop]
          exact small' (by omega)
        · rw [upd_same, take_more hu, List.map_append, List.map_append]
          have e : (if (c : Int) < u then (c : Int) else u) = min u (c : Int) := by
            by_cases z : (c : Int) < u
            · rw [if_pos z]; omega
            · rw [if_neg z]; omega
          show some (HO.lst (_ ++ [V.int (if (c : Int) < u then (c : Int) else u)])) = _
          rw [e]
          all_goals rfl
      · rintro H3 ⟨s3, hD⟩
        rw [List.length_map, List.take_length] at hD
        have ho3 := s3 _ _ ho2
        refine ⟨o, D, _, _, rfl, rfl, ho3, hD, ?_, ?_⟩
        · rw [List.length_map, List.length_map, List.length_map, List.length_take, List.length_drop]
          exact small (by omega)
        · refine ⟨_, rfl, q _ o (sPut ((s1.trans s2).trans s3) no0) no0 ?_⟩
          rw [upd_same]
          unfold behindL
          rw [if_pos (by omega), List.map_append]
    · have z' := of_decide_eq_false (Bool.eq_false_iff.mpr z)
      refine ⟨_, rfl, q H1 o s1 no0 ?_⟩
      unfold behindL
      rw [if_neg (by omega), List.append_nil]
      exact ho
end
abbrev s_bitten : Stmt := topS 14
abbrev N_bitten : List Str := ["bar", "row", "column"]
theorem sc_bitten : FnScope N_bitten ["bar", "row", "column"] (defScope s_bitten) := ⟨rfl, rfl, rfl, by decide +kernel, rfl, by decide +kernel, by decide +kernel⟩
section
variable {P : Program} {w : World} {K : PySem.W.Frag} {mg : Str → Option Value} {base : Heap}
/-- bitten(bar, 0, 0), any list of ints: an error -/
def sp_bitten0 (K : PySem.W.Frag) (cs : Nat → Addr) : Sp := fun vs H _ E => ∃ (a : Addr) (ns : List Int), vs = [.ref a, .int 0, .int 0] ∧ SqL K H a (ns.map V.int) ∧ (isBarB ns = true → ∀ H', Same H H' → E (.ref (cs 1)) none H') ∧ (isBarB ns = false → E (.ref (cs 0)) none H)
theorem ok_bitten {f : Addr} {fd : FuncData} (F : Fun K "bitten" "bitten" s_bitten f fd) (C_bites_of : Cal P w K mg base CX0 1 "bites_of" ["bar"] (sp_bites_of K))
    (C_behind : Cal P w K mg base CX0 1 "behind" ["bar", "row", "column"] (sp_behind K)) {cs : Nat → Addr} {cB : Addr} (T_kinds : Kinds K mg cs cB) (X_asked_bar : Cal P w K mg base (L2N.CX P w) 2 "asked_bar" ["bar"] (sp_xb K cs)) : FnOk P w K mg base (L2N.CX P w) 3 f fd ["bar", "row", "column"] (sp_bitten0 K cs) := by
  refine okN F sc_bitten (fun vs H Q E h => ?_) (fun cdv A outer s H vs Q E hr h => ?_)
  · obtain ⟨a, ns, rfl, _⟩ := h
    rfl
  · obtain ⟨a, ns, rfl, hS, qe, qb⟩ := h
    refine ⟨_, (pss_cons (ps_expr (by exact (pe_cS X_asked_bar hr (by decide) (L2N.takes_of rfl rfl rfl rfl) (pa_cons (pv 0) pa_nil))))
      (pss_cons (ps_if (pt_cmpR (notInDK (K := K) (hu65 hr)) (pe_tup (pa_cons (pv 1) (pa_cons (pv 2) pa_nil))) (pe_c C_bites_of hr (by decide) pass0 (pa_cons (pv 0) pa_nil)) (by rfl))
        (pss_one (ps_own rfl T_kinds.o1 (L2N.takes_of rfl rfl rfl rfl)))
        pss_nil)
      (pss_one (ps_ret (pe_c C_behind hr (by decide) pass0 (pa_cons (pv 0) (pa_cons (pv 1) (pa_cons (pv 2) pa_nil)))))))), ?_⟩
    refine ⟨_, rfl, a, ns, rfl, hS, fun hb v H0 s0 => ?_, qb⟩
    have ib := isBarB_iff.mp hb
    refine ⟨_, rfl, _, rfl, by show 2 ≤ sizeLine; decide, fun t nt => ?_⟩
    have s1 : Same H0 (upd H0 t (.tup [.int 0, .int 0])) := sNew nt
    have ht1 : upd H0 t (.tup [.int 0, .int 0]) t = some (.tup (([0, 0] : List Int).map V.int)) := upd_same
    generalize upd H0 t (.tup [.int 0, .int 0]) = H1 at s1 ht1 ⊢
    refine ⟨_, rfl, a, ns, rfl, (s0.trans s1).seq hS, ib, fun H2 p xs s2 np hp tp => ?_⟩
    refine ⟨_, _, dp_tup (s2 _ _ ht1), dp_tl (SqL.of hp) tp, shaped_tup _, shaped_tups _, _, rfl, ?_⟩
    rw [any_tup]
    refine n2_ (fun _ => qe hb H2 (s0.trans (s1.trans s2))) (fun hm => ?_)
    have hm : pr (0, 0) ∈ (bitesL ns).map pr := hm
    obtain ⟨x, _, _, h⟩ := mem_bitesL.mp (pr_mem.mp hm)
    exact absurd h (by decide)
end
abbrev s_turned : Stmt := topS 15
abbrev N_turned : List Str := ["bar", "pieces", "column"]
theorem sc_turned : FnScope N_turned ["bar"] (defScope s_turned) := ⟨rfl, rfl, rfl, by decide +kernel, rfl, by decide +kernel, by decide +kernel⟩
section
variable {P : Program} {w : World} {K : PySem.W.Frag} {mg : Str → Option Value} {base : Heap}
/-- turned(bar), good bars: a new list -/
def sp_turned (K : PySem.W.Frag) : Sp := fun vs H Q _ => ∃ (a : Addr) (ns : List Int), vs = [.ref a] ∧ SqL K H a (ns.map V.int) ∧ IsBar 5 ns ∧
  ∀ H' p, Same H H' → H p = none → H' p = some (.lst ((turnedL ns).map V.int)) → Q (.ref p) H'
theorem ok_turned {f : Addr} {fd : FuncData} (F : Fun K "turned" "turned" s_turned f fd) (m_len : mg "len" = none) (m_range : mg "range" = none) (C_asked_bar : Cal P w K mg base CX0 2 "asked_bar" ["bar"] (sp_asked_bar K)) :
    FnOk P w K mg base CX0 3 f fd ["bar"] (sp_turned K) := by
  refine F.ok sc_turned (fun vs H Q E h => ?_) (fun cdv A outer s H vs Q E hr h => ?_)
  · obtain ⟨a, ns, rfl, _⟩ := h
    rfl
  · obtain ⟨a, ns, rfl, hS, hb, q⟩ := h
    have hl : (ns.map V.int).length = ns.length := List.length_map _
    have hl5 : ns.length ≤ 5 := by have := hb.le; omega
    obtain ⟨z, hz, ez, z1, z5⟩ := head_is hb
    refine ⟨_, (pss_cons (ps_expr (pe_c C_asked_bar hr (by decide) pass0 (pa_cons (pv 0) pa_nil)))
      (pss_one (ps_ret (pe_lc (own := [("column", 2)]) (g := gName 2) (tt := tYes) rfl sc_turned.nd (pi_range1 (by rfl) m_range (pa_cons (pe_ix (ixK (K := K)) (pv 0) pe_int (fun _ _ => rfl)) pa_nil)) (blkOk_by (N := N_turned) (sc := defScope s_turned) (by decide +kernel)) (fun _ _ _ _ _ => (pg_name (i := 2) sc_turned.nd rfl (.inr rfl))) (fun _ _ _ _ _ => pts_nil) (fun _ _ _ _ _ => (pe_callB (lenK (K := K)) (by rfl) m_len PySem.boot_len (pa_cons (by exact (pe_lc (own := [("pieces", 1)]) (g := gName 1) rfl sc_turned.nd (pi_listK (K := K) (pv 0)) (blkOk_by (by kernel_rfl)) (fun _ _ _ _ _ => (pg_name (i := 1) sc_turned.nd rfl (.inl rfl))) (fun _ _ _ _ _ => (pts_one (pt_cmpR op_gt (pv 1) (pv 2) (nomark _)))) (fun _ _ _ _ _ => (pv 1)))) pa_nil))))))), ?_⟩
    refine ⟨_, rfl, a, ns, rfl, hS, isBarB_iff.mpr hb, ?_⟩
    refine ⟨_, rfl, a, _, _, _, rfl, rfl, hS, at_map hz, _, rfl, by omega, by omega, fun D nD => ?_⟩
    refine lc_range (lo := 0) (n := z.toNat) (fun i H' => Same H H' ∧ H' D = some (.lst ((List.range i).map fun c => V.int (cnt ns c : Int)))) ⟨sNew nD, upd_same⟩ ?_ ?_
    · rintro i H1 hi ⟨sm, hD⟩
      refine ⟨rfl, yesT ?_⟩
      have hA : SqL K H1 a (ns.map V.int) := sm.seq hS
      refine ⟨_, rfl, a, rfl, ⟨_, hA⟩, fun D2 nD2 => ?_⟩
      refine lc_list (K := K) (a := a) (xs := ns.map V.int) (fun j H' => Same H1 H' ∧ H' D2 = some (.lst (((ns.take j).filter fun x => decide ((i : Int) < x)).map V.int))) ⟨sNew nD2, upd_same⟩ (fun _ _ _ h => h.1.seq hA) ?_ ?_
      · rintro j y H2 hj ⟨sm2, hD2⟩
        obtain ⟨u, hu, rfl⟩ := map_get hj
        have hf := filter_more (fun x => decide ((i : Int) < x)) hu
        refine ⟨rfl, _, rfl, _, rfl, _, _, rfl, rfl, _, rfl, ?_⟩
        rw [Int.zero_add]
        refine ite2 (fun c => ?_) (fun c => ?_)
        · rw [if_pos c, ] at hf
          refine ⟨_, rfl, _, hD2, ?_, sPut sm2 nD2, ?_⟩
          · have := List.length_filter_le (fun x => decide ((i : Int) < x)) (ns.take j)
            rw [List.length_take] at this
            rw [List.length_map]
            exact small' (by omega)
          · rw [upd_same, hf, List.map_append]
            all_goals rfl
        · rw [if_neg c, List.append_nil] at hf
          exact ⟨sm2, by rw [hf]; exact hD2⟩
      · rintro H2 ⟨sm2, hD2⟩
        rw [hl, List.take_length] at hD2
        have hDk := sm2 _ _ hD
        refine ⟨D2, _, rfl, .inl (SqL.of hD2), _, hDk, by rw [List.length_map, List.length_range]; exact small' (by omega), sPut (sm.trans sm2) nD, ?_⟩
        rw [upd_same, List.range_succ, List.map_append, List.length_map]
        all_goals rfl
    · rintro H1 ⟨sm, hD⟩
      refine q H1 D sm nD ?_
      rw [hD]
      unfold turnedL
      rw [ez, List.map_map]
      all_goals rfl
end
section
variable {P : Program} {w : World} {K : PySem.W.Frag} {mg : Str → Option Value} {base : Heap}
/-- turned(bar), any list of ints -/
theorem okx_turned {f : Addr} {fd : FuncData} {cs : Nat → Addr} (F : Fun K "turned" "turned" s_turned f fd) (m_len : mg "len" = none) (m_range : mg "range" = none) (C_asked_bar : Cal P w K mg base CX0 2 "asked_bar" ["bar"] (sp_asked_bar K)) (X_asked_bar : Cal P w K mg base (L2N.CX P w) 2 "asked_bar" ["bar"] (sp_xb K cs)) : FnOk P w K mg base (L2N.CX P w) 3 f fd ["bar"] (sp_xb K cs) := by
  have bad : FnOk P w K mg base (L2N.CX P w) 3 f fd ["bar"] (sp_badbar K cs) := by
    refine okN F sc_turned (fun vs H Q E h => ?_) (fun cdv A outer s H vs Q E hr h => ?_)
    · obtain ⟨a, ns, rfl, _⟩ := h
      rfl
    · obtain ⟨a, ns, rfl, hS, hb, qe⟩ := h
      refine ⟨_, pss_cons (ps_expr (by exact (pe_cS X_asked_bar hr (by decide) (L2N.takes_of rfl rfl rfl rfl) (pa_cons (pv 0) pa_nil)))) pss_never, ?_⟩
      exact ⟨_, rfl, a, ns, rfl, hS, fun z => absurd (z.symm.trans hb) (by decide), fun _ => qe⟩
  refine (two (lift0 (ok_turned F m_len m_range C_asked_bar)) (bad.mono (by decide))).imp fun vs H Q E h => ?_
  obtain ⟨a, ns, rfl, hS, qg, qb⟩ := h
  rcases Bool.eq_false_or_eq_true (isBarB ns) with hb | hb
  · exact .inl ⟨a, ns, rfl, hS, isBarB_iff.mp hb, fun H' p s _ _ => qg hb _ H' s⟩
  · exact .inr ⟨a, ns, rfl, hS, hb, qb hb⟩
end
abbrev s_added : Stmt := topS 17
abbrev N_added : List Str := ["one", "other", "total", "figure"]
theorem sc_added : FnScope N_added ["one", "other"] (defScope s_added) := ⟨rfl, rfl, rfl, by decide +kernel, rfl, by decide +kernel, by decide +kernel⟩
section
variable {P : Program} {w : World} {K : PySem.W.Frag} {mg : Str → Option Value} {base : Heap}
/-- added(one, other) -/
def sp_added (K : PySem.W.Frag) : Sp := fun vs H Q _ => ∃ (x y : Nat), vs = [.int (x : Nat), .int (y : Nat)] ∧ Q (.int ((x ^^^ y : Nat) : Int)) H
theorem ok_added {f : Addr} {fd : FuncData} (F : Fun K "added" "added" s_added f fd) : FnOk P w K mg base CX0 1 f fd ["one", "other"] (sp_added K) := by
  refine F.ok sc_added (fun vs H Q E h => ?_) (fun cdv A outer s H vs Q E hr h => ?_)
  · obtain ⟨x, y, rfl, _⟩ := h
    rfl
  · obtain ⟨x0, y0, rfl, q⟩ := h
    refine ⟨_, (pss_cons (ps_set (i := 2) sc_added.nd rfl (.inl rfl) pe_int)
      (pss_cons (ps_set (i := 3) sc_added.nd rfl (.inl rfl) pe_int)
      (pss_cons (ps_while PassesOwn.never (PW.pt (pw_or (pt_cmpR op_gt (pv 0) pe_int (nomark _)) (pw_or1 (pt_cmpR op_gt (pv 1) pe_int (nomark _)))))
        (C8.pss_cut (ps_if (pt_cmpR op_ne (pe_op op_mod (pv 0) pe_int) (pe_op op_mod (pv 1) pe_int) (nomark _))
          (pss_one (ps_set (i := 2) sc_added.nd rfl (.inl rfl) (pe_op op_add (pv 2) (pv 3))))
          pss_nil)
        (pss_cons (ps_set (i := 0) sc_added.nd rfl (.inl rfl) (pe_op op_fdiv (pv 0) pe_int))
        (pss_cons (ps_set (i := 1) sc_added.nd rfl (.inl rfl) (pe_op op_fdiv (pv 1) pe_int))
        (pss_one (ps_set (i := 3) sc_added.nd rfl (.inl rfl) (pe_op op_mul pe_int (pv 3))))))))
      (pss_one (ps_ret (pv 2)))))), ?_⟩
    refine ⟨fun m σ H' => ∃ x y t f : Nat, σ = [some (.int (x : Nat)), some (.int (y : Nat)), some (.int (t : Nat)), some (.int (f : Nat))] ∧ H' = H ∧ t + f * (x ^^^ y) = x0 ^^^ y0 ∧ m = x + y, ⟨x0 + y0, x0, y0, 0, 1, rfl, rfl, by omega, rfl⟩, ?_⟩
    rintro m σ H1 ⟨x, y, t, f, rfl, rfl, e, rfl⟩
    have hx2 : (x : Int) % 2 = ((x % 2 : Nat) : Int) := by omega
    have hy2 : (y : Int) % 2 = ((y % 2 : Nat) : Int) := by omega
    have hxd : (x : Int) / 2 = ((x / 2 : Nat) : Int) := by omega
    have hyd : (y : Int) / 2 = ((y / 2 : Nat) : Int) := by omega
    have next : ∀ t' : Nat, t' = t + (if x % 2 = y % 2 then 0 else f) → t' + 2 * f * (x / 2 ^^^ y / 2) = x0 ^^^ y0 := fun t' et => by
      rw [← e, et, xor_step x y, Nat.mul_add, Nat.mul_comm 2 f, Nat.mul_assoc]
      split
      · rw [Nat.mul_zero]; omega
      · rw [Nat.mul_one]; omega
    -- a turn, whichever figure is left
    have turn : 0 < x + y → ∀ (m' : Nat), m' = x + y → ∃ N : L2.St → Hp → Prop, (∀ (σ' : L2.St) (H' : Hp), N σ' H' → ∃ k, k < m' ∧ ∃ x y t f : Nat, σ' = [some (.int (x : Nat)), some (.int (y : Nat)), some (.int (t : Nat)), some (.int (f : Nat))] ∧ H' = H1 ∧ t + f * (x ^^^ y) = x0 ^^^ y0 ∧ k = x + y) ∧
        ∀ t' : Nat, t' = t + (if x % 2 = y % 2 then 0 else f) → N [some (.int ((x : Int) / 2)), some (.int ((y : Int) / 2)), some (.int (t' : Nat)), some (.int (2 * (f : Int)))] H1 := fun hpos m' em => by
      refine ⟨fun σ' H' => ∃ x' y' t f : Nat, σ' = [some (.int (x' : Nat)), some (.int (y' : Nat)), some (.int (t : Nat)), some (.int (f : Nat))] ∧ H' = H1 ∧ t + f * (x' ^^^ y') = x0 ^^^ y0 ∧ x' + y' < x + y, ?_, fun t' et => ?_⟩
      · rintro σ' H' ⟨x', y', t', f', h1, h2, h3, h4⟩
        exact ⟨x' + y', by omega, x', y', t', f', h1, h2, h3, rfl⟩
      · refine ⟨x / 2, y / 2, t', 2 * f, ?_, rfl, next t' et, by omega⟩
        rw [hxd, hyd]
        all_goals rfl
    have cutS : ∀ (σ' : L2.St) (H' : Hp), σ' = [some (V.int (x : Nat)), some (V.int (y : Nat)), some (V.int (t : Nat)), some (V.int (f : Nat))] → H' = H1 → ∀ (D : Ends), (∀ t' : Nat, t' = t + (if x % 2 = y % 2 then 0 else f) → D.nx [some (.int (x : Nat)), some (.int (y : Nat)), some (.int (t' : Nat)), some (.int (f : Nat))] H1) →
        (tIfS (tTest (tOp rNe (tOp (rI (fun _ j => 0 < j) fun i j => V.int (i % j)) (tVar 0) (tC (V.int 2))) (tOp (rI (fun _ j => 0 < j) fun i j => V.int (i % j)) (tVar 1) (tC (V.int 2))))) (tAsg (tOp (rI0 fun i j => V.int (i + j)) (tVar 2) (tVar 3)) (gName 2)) tNext) D σ' H' := by
      rintro σ' H' rfl rfl D hD
      refine ⟨_, rfl, _, _, rfl, rfl, (by show (0 : Int) < 2; decide), _, rfl, _, _, rfl, rfl, (by show (0 : Int) < 2; decide), rfl, _, rfl, n2_ (fun c => ?_) (fun c => ?_)⟩
      · have c' : ¬ x % 2 = y % 2 := fun z => c (by show V.int ((x : Int) % 2) = V.int ((y : Int) % 2); rw [hx2, hy2, z])
        exact ⟨_, rfl, _, rfl, _, _, rfl, rfl, hD (t + f) (by rw [if_neg c'])⟩
      · have c' : x % 2 = y % 2 := by have := int_eq c; omega
        exact hD t (by rw [if_pos c']; rfl)
    by_cases hx : 0 < x
    · obtain ⟨N, hN, hT⟩ := turn (by omega) _ rfl
      refine ⟨_, rfl, _, _, rfl, rfl, _, rfl, dT_ (by omega) (iteT ⟨N, hN, fun σ' H' => ∃ t' : Nat, σ' = [some (.int (x : Nat)), some (.int (y : Nat)), some (.int (t' : Nat)), some (.int (f : Nat))] ∧ H' = H1 ∧ t' = t + (if x % 2 = y % 2 then 0 else f), cutS _ _ rfl rfl _ (fun t' et => ⟨t', rfl, rfl, et⟩), ?_⟩)⟩
      rintro σ' H' ⟨t', rfl, rfl, et⟩
      exact ⟨_, rfl, _, _, rfl, rfl, ⟨by decide, by decide⟩, _, rfl, _, _, rfl, rfl, ⟨by decide, by decide⟩, _, rfl, _, _, rfl, rfl, .inl ⟨by decide, by decide⟩, hT t' et⟩
    · refine ⟨_, rfl, _, _, rfl, rfl, _, rfl, dF_ (by omega) ?_⟩
      by_cases hy : 0 < y
      · obtain ⟨N, hN, hT⟩ := turn (by omega) _ rfl
        refine ⟨_, rfl, _, _, rfl, rfl, _, rfl, dT_ (by omega) ⟨N, hN, fun σ' H' => ∃ t' : Nat, σ' = [some (.int (x : Nat)), some (.int (y : Nat)), some (.int (t' : Nat)), some (.int (f : Nat))] ∧ H' = H1 ∧ t' = t + (if x % 2 = y % 2 then 0 else f), cutS _ _ rfl rfl _ (fun t' et => ⟨t', rfl, rfl, et⟩), ?_⟩⟩
        rintro σ' H' ⟨t', rfl, rfl, et⟩
        exact ⟨_, rfl, _, _, rfl, rfl, ⟨by decide, by decide⟩, _, rfl, _, _, rfl, rfl, ⟨by decide, by decide⟩, _, rfl, _, _, rfl, rfl, .inl ⟨by decide, by decide⟩, hT t' et⟩
      · refine ⟨_, rfl, _, _, rfl, rfl, _, rfl, dF_ (by omega) ⟨_, rfl, ?_⟩⟩
        have h0 : x = 0 := by omega
        have h1 : y = 0 := by omega
        subst h0 h1
        have e' : t = x0 ^^^ y0 := by
          rw [← e]
          show t = t + f * 0
          omega
        rw [← e'] at q
        exact q
end
abbrev s_worth_of : Stmt := topS 18
abbrev N_worth_of : List Str := ["bar", "known", "key", "seen", "row", "column", "least"]
theorem sc_worth_of : FnScope N_worth_of ["bar", "known"] (defScope s_worth_of) := ⟨rfl, rfl, rfl, by decide +kernel, rfl, by decide +kernel, by decide +kernel⟩
section
variable {P : Program} {w : World} {K : PySem.W.Frag} {mg : Str → Option Value} {base : Heap}
/-- worth_of(bar, known), of bars of at most n pieces -/
def sp_worth_of (K : PySem.W.Frag) (n : Nat) : Sp := fun vs H Q _ => ∃ (a d : Addr) (ns : List Int) (kvs : List (List Key × V)), vs = [.ref a, .ref d] ∧ SqL K H a (ns.map V.int) ∧ IsBar 5 ns ∧ pieces ns ≤ n ∧ H d = some (.dT kvs) ∧ Known kvs ∧
  ∀ H' kvs', But d H H' → H' d = some (.dT kvs') → Known kvs' → Q (.int (worthL ns : Nat)) H'
theorem ok_worth_of_step {n : Nat} {f : Addr} {fd : FuncData} (F : Fun K "worth_of" "worth_of" s_worth_of f fd) (m_tuple : mg "tuple" = none) (C_bites_of : Cal P w K mg base CX0 1 "bites_of" ["bar"] (sp_bites_of K)) (C_behind : Cal P w K mg base CX0 1 "behind" ["bar", "row", "column"] (sp_behind K))
    (C_worth_of : Cal P w K mg base CX0 (n + 2) "worth_of" ["bar", "known"] (sp_worth_of K n)) : FnOk P w K mg base CX0 (n + 1 + 2) f fd ["bar", "known"] (sp_worth_of K (n + 1)) := by
  refine F.ok sc_worth_of (fun vs H Q E h => ?_) (fun cdv A outer s H vs Q E hr h => ?_)
  · obtain ⟨a, d, ns, kvs, rfl, _⟩ := h
    rfl
  · obtain ⟨a, d, ns, kvs, rfl, hS, ib, hp, hd, hk, q⟩ := h
    have hu := hu_of hr
    refine ⟨_, (pss_cons (ps_set (i := 2) sc_worth_of.nd rfl (.inl rfl) (pe_callTy (tupleK (K := K)) (by rfl) m_tuple (by decide +kernel) (pa_cons (pv 0) pa_nil)))
      (pss_cons (ps_if (pt_cmp (pc_dnotin hu (pv 2) (pv 1)))
        (pss_cons (ps_set (i := 3) sc_worth_of.nd rfl (.inl rfl) pe_dnewK)
        (pss_cons (ps_for PassesOwn.never rfl (pi_listK (K := K) (pe_c C_bites_of hr (by omega) pass0 (pa_cons (pv 0) pa_nil))) (pg_tupK (K := K) rfl (pgs_cons (pg_name (i := 4) sc_worth_of.nd rfl (.inl rfl)) (pgs_cons (pg_name (i := 5) sc_worth_of.nd rfl (.inl rfl)) pgs_nil)))
          (pss_one (ps_dput hu (pv 3) (pe_c C_worth_of hr (by omega) pass0 (pa_cons (pe_c C_behind hr (by omega) pass0 (pa_cons (pv 0) (pa_cons (pv 4) (pa_cons (pv 5) pa_nil)))) (pa_cons (pv 1) pa_nil))) pe_bl rfl)))
        (pss_cons (ps_set (i := 6) sc_worth_of.nd rfl (.inl rfl) pe_int)
        (pss_cons (ps_while PassesOwn.never (pt_cmp (pc_din hu (pv 6) (pv 3)))
          (pss_one (ps_set (i := 6) sc_worth_of.nd rfl (.inl rfl) (pe_op op_add (pv 6) pe_int))))
        (pss_one (ps_dput hu (pv 1) (pv 2) (pv 6) rfl))))))
        pss_nil)
      (pss_one (ps_ret (pe_dget hu (pv 1) (pv 2) (fun _ _ => rfl)))))), ?_⟩
    refine ⟨_, rfl, a, _, rfl, .inl ⟨hS, fun k nk => ?_⟩⟩
    have s1 : Same H (upd H k (.tup (ns.map V.int))) := sNew nk
    have hk1 : upd H k (.tup (ns.map V.int)) k = some (.tup ((keyOf ns).map kV)) := by rw [upd_same, keyOf_kV]
    generalize upd H k (.tup (ns.map V.int)) = H1 at s1 hk1 ⊢
    have hd1 := s1 _ _ hd
    refine ⟨_, rfl, _, rfl, d, _, rfl, DGet.t hd1 hk1, _, rfl, ?_⟩
    cases ev : valV kvs (keyOf ns) with
    | some v =>
      have e := hk.get ev
      subst e
      refine iteF ?_
      have g := DGet.t hd1 hk1
      rw [ev] at g
      exact ⟨_, rfl, _, rfl, d, _, rfl, g, q H1 kvs (But.same s1) hd1 hk⟩
    | none =>
      refine iteT ?_
      intro s ns2
      have s2 : Same H1 (upd H1 s (.dK [])) := sNew ns2
      have hs2 : upd H1 s (.dK []) s = some (.dK []) := upd_same
      generalize upd H1 s (.dK []) = H2 at s2 hs2 ⊢
      refine ⟨_, rfl, a, ns, rfl, (s1.trans s2).seq hS, ib, fun H3 p xs s3 np hp3 tp => ?_⟩
      have sH : Same H H3 := (s1.trans s2).trans s3
      have hd3 := sH _ _ hd
      have hk3 := s3 _ _ (s2 _ _ hk1)
      have hs3 := s3 _ _ hs2
      have hsn : H s = none := s1.free ns2
      have pd : p ≠ d := ne_of hp3 hd3 (by intro z; cases z)
      have ps : p ≠ s := ne_of hp3 hs3 (by intro z; cases z)
      have kd : k ≠ d := ne_of hk3 hd3 (by intro z; cases z)
      have ks : k ≠ s := ne_of hk3 hs3 (by intro z; cases z)
      have sd : s ≠ d := ne_of hs3 hd3 (by intro z; cases z)
      have elen : xs.length = (bitesL ns).length := by rw [tp.length, List.length_map]
      have el25 := bitesL_len ib
      refine ⟨p, rfl, ⟨_, SqL.of hp3⟩, for_list (K := K) (a := p) (xs := xs) (fun i σ H' => ∃ (y4 y5 : Option V) (kvs1 : List (List Key × V)) (kv2 : List (Key × V)), σ = [some (.ref a), some (.ref d), some (.ref k), some (.ref s), y4, y5, none] ∧
          (∀ b o, b ≠ d → b ≠ s → H3 b = some o → H' b = some o) ∧ H' d = some (.dT kvs1) ∧ Known kvs1 ∧ (∀ b, valV kvs1 (keyOf b) = none ∨ True) ∧ H' s = some (.dK kv2) ∧ Seen kv2 (((bitesL ns).take i).map (wB ns)))
        ⟨none, none, kvs, [], rfl, fun _ _ _ _ h => h, hd3, hk, fun _ => .inr trivial, hs3, Seen.nil⟩ (fun i σ H' _ ⟨_, _, _, _, _, kp, _⟩ => SqL.of (kp _ _ pd ps hp3)) ?_ ?_⟩
      · rintro i x σ H4 hi ⟨y4, y5, kvs1, kv2, rfl, kp, hd4, hk4, _, hs4, hse⟩
        obtain ⟨t, b, hb, rfl, ht⟩ := tp.bite hi
        have hbm : b ∈ bitesL ns := List.mem_of_getElem? hb
        have td : t ≠ d := ne_of ht hd3 (by intro z; cases z)
        have ts : t ≠ s := ne_of ht hs3 (by intro z; cases z)
        have ht4 := kp _ _ td ts ht
        have hA : SqL K H4 a (ns.map V.int) := by
          rcases hS with (h | ⟨o, h⟩) | h
          · exact .inl (.inl (kp _ _ (ne_of h hd (by intro z; cases z)) (ne_of_none h hsn) (sH _ _ h)))
          · exact .inl (.inr ⟨o, kp _ _ (ne_of h hd (by intro z; cases z)) (ne_of_none h hsn) (sH _ _ h)⟩)
          · exact .inr h
        refine ⟨t, _, rfl, SqT.of ht4, rfl, _, _, rfl, _, _, rfl, rfl, ?_⟩
        refine ⟨_, rfl, _, rfl, _, rfl, _, rfl, a, ns, b.1, b.2, rfl, hA, ib, hbm, fun H5 g s5 ng hg => ?_⟩
        have hpl := pieces_less hbm
        refine ⟨_, rfl, g, d, _, kvs1, rfl, SqL.of hg, isBar_behind ib hbm, by omega, s5 _ _ hd4, hk4, fun H6 kvs6 b6 hd6 hk6 => ?_⟩
        have hs6 := b6 _ _ sd (s5 _ _ hs4)
        have hlen2 := hse.len
        rw [List.length_map, List.length_take] at hlen2
        refine ⟨s, _, rfl, DPut.k (k := Sum.inl (wB ns b : Nat)) hs6 (small' (by omega)), ?_⟩
        refine ⟨_, _, kvs6, _, rfl, fun c o n1 n2 h => ?_, ?_, hk6, fun _ => .inr trivial, upd_same, ?_⟩
        · rw [upd_ne n2]
          exact b6 _ _ n1 (s5 _ _ (kp _ _ n1 n2 h))
        · rw [upd_ne (Ne.symm sd)]
          exact hd6
        · rw [take_more hb, List.map_append]
          exact hse.put (wB ns b) _
      · rintro σ H4 ⟨y4, y5, kvs1, kv2, rfl, kp, hd4, hk4, _, hs4, hse⟩
        rw [elen, List.take_length] at hse
        have hw := mex_spec ((bitesL ns).map (wB ns))
        rw [← worth_mex] at hw
        have hk4' := kp _ _ kd ks hk3
        refine ⟨fun m σ H' => ∃ l : Nat, σ = [some (.ref a), some (.ref d), some (.ref k), some (.ref s), y4, y5, some (.int (l : Nat))] ∧ H' = H4 ∧ l + m = worthL ns, ⟨worthL ns, 0, rfl, rfl, Nat.zero_add _⟩, ?_⟩
        rintro m σ H5 ⟨l, rfl, rfl, em⟩
        refine ⟨_, rfl, _, rfl, s, _, rfl, DGet.k (k := Sum.inl (l : Int)) hs4, _, rfl, ?_⟩
        rw [hse.is l]
        by_cases hm : m = 0
        · have e : l = worthL ns := by omega
          subst e
          rw [decide_eq_false hw.1]
          refine iteF ?_
          -- known[key] = least
          have hb4 : But d H H5 := fun b o n h => kp b o n (ne_of_none h hsn) (sH _ _ h)
          cases ev1 : valV kvs1 (keyOf ns) with
          | none =>
            refine ⟨_, rfl, _, rfl, _, rfl, d, _, rfl, DPut.t hd4 hk4' (small' (by have := hk4.len; omega)), ?_⟩
            have hd7 : upd H5 d (.dT (putK kvs1 (keyOf ns) (.int (worthL ns : Nat)))) d = some (.dT (putK kvs1 (keyOf ns) (.int (worthL ns : Nat)))) := upd_same
            have hk7 : upd H5 d (.dT (putK kvs1 (keyOf ns) (.int (worthL ns : Nat)))) k = some (.tup ((keyOf ns).map kV)) := by rw [upd_ne kd]; exact hk4'
            have g := DGet.t hd7 hk7
            rw [valV_put, if_pos rfl] at g
            exact ⟨_, rfl, _, rfl, d, _, rfl, g, q _ _ (hb4.trans But.at) hd7 (hk4.put ib ev1)⟩
          | some v =>
            have e := hk4.get ev1
            subst e
            refine ⟨_, rfl, _, rfl, _, rfl, d, _, rfl, DPut.t hd4 hk4' (small' (by have := hk4.len; omega)), ?_⟩
            have hd7 : upd H5 d (.dT (putK kvs1 (keyOf ns) (.int (worthL ns : Nat)))) d = some (.dT (putK kvs1 (keyOf ns) (.int (worthL ns : Nat)))) := upd_same
            have hk7 : upd H5 d (.dT (putK kvs1 (keyOf ns) (.int (worthL ns : Nat)))) k = some (.tup ((keyOf ns).map kV)) := by rw [upd_ne kd]; exact hk4'
            have g := DGet.t hd7 hk7
            rw [valV_put, if_pos rfl] at g
            exact ⟨_, rfl, _, rfl, d, _, rfl, g, q _ _ (hb4.trans But.at) hd7 (hk4.again ev1)⟩
        · rw [decide_eq_true (hw.2 l (by omega))]
          refine iteT ⟨fun σ' H' => ∃ l : Nat, σ' = [some (.ref a), some (.ref d), some (.ref k), some (.ref s), y4, y5, some (.int (l : Nat))] ∧ H' = H5 ∧ l + (m - 1) = worthL ns, fun σ' H' h => ⟨m - 1, by omega, h⟩, ?_⟩
          exact ⟨_, rfl, _, _, rfl, rfl, l + 1, rfl, rfl, by omega⟩
theorem ok_worth_of {f : Addr} {fd : FuncData} (F : Fun K "worth_of" "worth_of" s_worth_of f fd) (bd : Binds K fd ["bar", "known"] []) (gm : mg "worth_of" = some (.ref f)) (m_tuple : mg "tuple" = none) (C_bites_of : Cal P w K mg base CX0 1 "bites_of" ["bar"] (sp_bites_of K))
    (C_behind : Cal P w K mg base CX0 1 "behind" ["bar", "row", "column"] (sp_behind K)) : ∀ n, Cal P w K mg base CX0 (n + 2) "worth_of" ["bar", "known"] (sp_worth_of K n)
  | 0 => by
    have no : ∀ vs H Q E, ¬ sp_worth_of K 0 vs H Q E := fun vs H Q E h => by
      obtain ⟨_, _, ns, _, _, _, ib, hp, _⟩ := h
      have := pieces_pos ib
      omega
    exact ⟨f, fd, ⟨fun vs H Q E h => absurd h (no vs H Q E), fun A outer s H args us vs Q E _ _ _ _ h => absurd h (no vs H Q E)⟩, gm, F.kp, bd⟩
  | n + 1 => ⟨f, fd, ok_worth_of_step F m_tuple C_bites_of C_behind (ok_worth_of F bd gm m_tuple C_bites_of C_behind n), gm, F.kp, bd⟩
end
abbrev s_worth : Stmt := topS 19
abbrev N_worth : List Str := ["bar"]
theorem sc_worth : FnScope N_worth ["bar"] (defScope s_worth) := ⟨rfl, rfl, rfl, by decide +kernel, rfl, by decide +kernel, by decide +kernel⟩
section
variable {P : Program} {w : World} {K : PySem.W.Frag} {mg : Str → Option Value} {base : Heap}
/-- worth(bar), good bars -/
def sp_worth (K : PySem.W.Frag) : Sp := fun vs H Q _ => ∃ (a : Addr) (ns : List Int), vs = [.ref a] ∧ SqL K H a (ns.map V.int) ∧ IsBar 5 ns ∧ ∀ H', Same H H' → Q (.int (worthL ns : Nat)) H'
theorem ok_worth {f : Addr} {fd : FuncData} (F : Fun K "worth" "worth" s_worth f fd) (C_asked_bar : Cal P w K mg base CX0 2 "asked_bar" ["bar"] (sp_asked_bar K)) (C_worth_of : ∀ n, Cal P w K mg base CX0 (n + 2) "worth_of" ["bar", "known"] (sp_worth_of K n)) :
    FnOk P w K mg base CX0 28 f fd ["bar"] (sp_worth K) := by
  refine F.ok sc_worth (fun vs H Q E h => ?_) (fun cdv A outer s H vs Q E hr h => ?_)
  · obtain ⟨a, ns, rfl, _⟩ := h
    rfl
  · obtain ⟨a, ns, rfl, hS, hb, q⟩ := h
    refine ⟨_, (pss_cons (ps_expr (pe_c C_asked_bar hr (by decide) pass0 (pa_cons (pv 0) pa_nil)))
      (pss_one (ps_ret (pe_c (C_worth_of 25) hr (by decide) pass0 (pa_cons (pv 0) (pa_cons pe_dnewT pa_nil)))))), ?_⟩
    refine ⟨_, rfl, a, ns, rfl, hS, isBarB_iff.mpr hb, _, rfl, fun d nd => ?_⟩
    refine ⟨a, d, ns, [], rfl, (sNew nd).seq hS, hb, pieces_25 hb, upd_same, Known.nil, fun H' kvs' b _ _ => ?_⟩
    exact q H' fun c o e => b c o (ne_of_none e nd) (by rw [upd_ne (ne_of_none e nd)]; exact e)
end
section
variable {P : Program} {w : World} {K : PySem.W.Frag} {mg : Str → Option Value} {base : Heap}
/-- worth(bar), any list of ints -/
theorem okx_worth {f : Addr} {fd : FuncData} {cs : Nat → Addr} (F : Fun K "worth" "worth" s_worth f fd) (C_asked_bar : Cal P w K mg base CX0 2 "asked_bar" ["bar"] (sp_asked_bar K)) (C_worth_of : ∀ n, Cal P w K mg base CX0 (n + 2) "worth_of" ["bar", "known"] (sp_worth_of K n)) (X_asked_bar : Cal P w K mg base (L2N.CX P w) 2 "asked_bar" ["bar"] (sp_xb K cs)) : FnOk P w K mg base (L2N.CX P w) 28 f fd ["bar"] (sp_xb K cs) := by
  have bad : FnOk P w K mg base (L2N.CX P w) 3 f fd ["bar"] (sp_badbar K cs) := by
    refine okN F sc_worth (fun vs H Q E h => ?_) (fun cdv A outer s H vs Q E hr h => ?_)
    · obtain ⟨a, ns, rfl, _⟩ := h
      rfl
    · obtain ⟨a, ns, rfl, hS, hb, qe⟩ := h
      refine ⟨_, pss_cons (ps_expr (by exact (pe_cS X_asked_bar hr (by decide) (L2N.takes_of rfl rfl rfl rfl) (pa_cons (pv 0) pa_nil)))) pss_never, ?_⟩
      exact ⟨_, rfl, a, ns, rfl, hS, fun z => absurd (z.symm.trans hb) (by decide), fun _ => qe⟩
  refine (two (lift0 (ok_worth F C_asked_bar C_worth_of)) (bad.mono (by decide))).imp fun vs H Q E h => ?_
  obtain ⟨a, ns, rfl, hS, qg, qb⟩ := h
  rcases Bool.eq_false_or_eq_true (isBarB ns) with hb | hb
  · exact .inl ⟨a, ns, rfl, hS, isBarB_iff.mp hb, fun H' s => qg hb _ H' s⟩
  · exact .inr ⟨a, ns, rfl, hS, hb, qb hb⟩
end
abbrev s_hook_worth : Stmt := topS 20
abbrev N_hook_worth : List Str := ["bar", "pieces"]
theorem sc_hook_worth : FnScope N_hook_worth ["bar"] (defScope s_hook_worth) := ⟨rfl, rfl, rfl, by decide +kernel, rfl, by decide +kernel, by decide +kernel⟩
section
variable {P : Program} {w : World} {K : PySem.W.Frag} {mg : Str → Option Value} {base : Heap}
/-- hook_worth(bar), good bars -/
def sp_hook_worth (K : PySem.W.Frag) : Sp := fun vs H Q _ => ∃ (a : Addr) (ns : List Int), vs = [.ref a] ∧ SqL K H a (ns.map V.int) ∧ IsBar 5 ns ∧ ∀ H', Same H H' →
  (isHook ns = true → Q (.int (((ns.headD 0 - 1).toNat ^^^ (ns.length - 1) : Nat) : Int)) H') ∧ (isHook ns = false → Q .non H')
theorem ok_hook_worth {f : Addr} {fd : FuncData} (F : Fun K "hook_worth" "hook_worth" s_hook_worth f fd) (m_len : mg "len" = none) (C_asked_bar : Cal P w K mg base CX0 2 "asked_bar" ["bar"] (sp_asked_bar K)) (C_added : Cal P w K mg base CX0 1 "added" ["one", "other"] (sp_added K)) :
    FnOk P w K mg base CX0 3 f fd ["bar"] (sp_hook_worth K) := by
  refine F.ok sc_hook_worth (fun vs H Q E h => ?_) (fun cdv A outer s H vs Q E hr h => ?_)
  · obtain ⟨a, ns, rfl, _⟩ := h
    rfl
  · obtain ⟨a, ns, rfl, hS, ib, q⟩ := h
    obtain ⟨z, hz, ez, z1, z5⟩ := head_is ib
    have hn := ib.ne
    refine ⟨_, (pss_cons (ps_expr (pe_c C_asked_bar hr (by decide) pass0 (pa_cons (pv 0) pa_nil)))
      (pss_cons (ps_for PassesOwn.never rfl (pi_listK (K := K) (pe_slice (slK (K := K)) (pv 0) (po_some pe_int) po_none)) (pg_name (i := 1) sc_hook_worth.nd rfl (.inl rfl))
        (pss_one (ps_if (pt_cmpR op_gt (pv 1) pe_int (nomark _))
          (pss_one (ps_ret pe_non))
          pss_nil)))
      (pss_one (ps_ret (pe_c C_added hr (by decide) pass0 (pa_cons (pe_op op_sub (pe_ix (ixK (K := K)) (pv 0) pe_int (fun _ _ => rfl)) pe_int) (pa_cons (pe_op op_sub (pe_callB (lenK (K := K)) (by rfl) m_len PySem.boot_len (pa_cons (pv 0) pa_nil)) pe_int) pa_nil))))))), ?_⟩
    refine ⟨_, rfl, a, ns, rfl, hS, isBarB_iff.mpr ib, ?_⟩
    refine ⟨_, rfl, (1 : Int), rfl, a, _, rfl, hS, fun p np => ?_⟩
    rw [show cutV (ns.map V.int) (some 1) none = ((ns.drop 1).map V.int) by rw [show (1 : Int) = ((1 : Nat) : Int) from rfl, cut_drop, List.map_drop]]
    have s1 : Same H (upd H p (.lst ((ns.drop 1).map V.int))) := sNew np
    have hp1 : upd H p (.lst ((ns.drop 1).map V.int)) p = some (.lst ((ns.drop 1).map V.int)) := upd_same
    generalize upd H p (.lst ((ns.drop 1).map V.int)) = H1 at s1 hp1 ⊢
    obtain ⟨q1, q2⟩ := q H1 s1
    refine ⟨p, rfl, ⟨_, SqL.of hp1⟩, for_list (K := K) (a := p) (xs := (ns.drop 1).map V.int) (fun i σ H' => ∃ y : Option V, σ = [some (.ref a), y] ∧ H' = H1 ∧ (((ns.drop 1).take i).all fun x => decide (x ≤ 1)) = true)
      ⟨none, rfl, rfl, rfl⟩ (fun i σ H' _ ⟨_, _, e, _⟩ => e ▸ SqL.of hp1) ?_ ?_⟩
    · rintro i y σ H2 hi ⟨y1, rfl, rfl, ha⟩
      obtain ⟨u, hu, rfl⟩ := map_get hi
      refine ⟨_, rfl, _, _, rfl, rfl, _, rfl, ite2 (fun c => ?_) (fun c => ?_)⟩
      · have c' := of_decide_eq_true c
        refine q2 ?_
        unfold isHook
        exact Bool.eq_false_iff.mpr fun h => by
          have := of_decide_eq_true (List.all_eq_true.mp h u (List.mem_of_getElem? hu))
          omega
      · have c' := of_decide_eq_false (Bool.eq_false_iff.mpr c)
        refine ⟨_, rfl, rfl, ?_⟩
        rw [take_more hu, List.all_append, ha]
        simp
        omega
    · rintro σ H2 ⟨y1, rfl, rfl, ha⟩
      rw [List.length_map, List.take_length] at ha
      have q1 := q1 ha
      rw [ez] at q1
      refine ⟨_, rfl, a, _, _, _, rfl, rfl, s1.seq hS, at_map hz, _, _, rfl, rfl, _, rfl, a, _, rfl, .inl (s1.seq hS), _, _, rfl, rfl, (z - 1).toNat, ns.length - 1, ?_, q1⟩
      rw [List.length_map]
      show [V.int (z - 1), V.int ((ns.length : Int) - 1)] = _
      rw [show z - 1 = (((z - 1).toNat : Nat) : Int) by omega, show (ns.length : Int) - 1 = ((ns.length - 1 : Nat) : Int) by omega]
      all_goals rfl
end
section
variable {P : Program} {w : World} {K : PySem.W.Frag} {mg : Str → Option Value} {base : Heap}
/-- hook_worth(bar), any list of ints -/
theorem okx_hook_worth {f : Addr} {fd : FuncData} {cs : Nat → Addr} (F : Fun K "hook_worth" "hook_worth" s_hook_worth f fd) (m_len : mg "len" = none) (C_asked_bar : Cal P w K mg base CX0 2 "asked_bar" ["bar"] (sp_asked_bar K)) (C_added : Cal P w K mg base CX0 1 "added" ["one", "other"] (sp_added K)) (X_asked_bar : Cal P w K mg base (L2N.CX P w) 2 "asked_bar" ["bar"] (sp_xb K cs)) : FnOk P w K mg base (L2N.CX P w) 3 f fd ["bar"] (sp_xb K cs) := by
  have bad : FnOk P w K mg base (L2N.CX P w) 3 f fd ["bar"] (sp_badbar K cs) := by
    refine okN F sc_hook_worth (fun vs H Q E h => ?_) (fun cdv A outer s H vs Q E hr h => ?_)
    · obtain ⟨a, ns, rfl, _⟩ := h
      rfl
    · obtain ⟨a, ns, rfl, hS, hb, qe⟩ := h
      refine ⟨_, pss_cons (ps_expr (by exact (pe_cS X_asked_bar hr (by decide) (L2N.takes_of rfl rfl rfl rfl) (pa_cons (pv 0) pa_nil)))) pss_never, ?_⟩
      exact ⟨_, rfl, a, ns, rfl, hS, fun z => absurd (z.symm.trans hb) (by decide), fun _ => qe⟩
  refine (two (lift0 (ok_hook_worth F m_len C_asked_bar C_added)) (bad.mono (by decide))).imp fun vs H Q E h => ?_
  obtain ⟨a, ns, rfl, hS, qg, qb⟩ := h
  rcases Bool.eq_false_or_eq_true (isBarB ns) with hb | hb
  · exact .inl ⟨a, ns, rfl, hS, isBarB_iff.mp hb, fun H' s => ⟨fun _ => qg hb _ H' s, fun _ => qg hb _ H' s⟩⟩
  · exact .inr ⟨a, ns, rfl, hS, hb, qb hb⟩
end
abbrev s_asked_table : Stmt := topS 23
abbrev N_asked_table : List Str := ["table", "bar"]
theorem sc_asked_table : FnScope N_asked_table ["table"] (defScope s_asked_table) := ⟨rfl, rfl, rfl, by decide +kernel, rfl, by decide +kernel, by decide +kernel⟩
section
variable {P : Program} {w : World} {K : PySem.W.Frag} {mg : Str → Option Value} {base : Heap}
/-- asked_table(table), good tables -/
def sp_asked_table (K : PySem.W.Frag) : Sp := fun vs H Q _ => ∃ (T : Addr) (xs : List V) (ds : List (List Int)), vs = [.ref T] ∧ SqL K H T xs ∧ LL H xs ds ∧ IsTable ds ∧ Q .non H
theorem ok_asked_table {f : Addr} {fd : FuncData} (F : Fun K "asked_table" "asked_table" s_asked_table f fd) (m_len : mg "len" = none) {t1 : Tok} (g_MOST : mg "MOST" = some (.int 3 t1)) (C_asked_bar : Cal P w K mg base CX0 2 "asked_bar" ["bar"] (sp_asked_bar K)) :
    FnOk P w K mg base CX0 3 f fd ["table"] (sp_asked_table K) := by
  refine F.ok sc_asked_table (fun vs H Q E h => ?_) (fun cdv A outer s H vs Q E hr h => ?_)
  · obtain ⟨T, xs, ds, rfl, _⟩ := h
    rfl
  · obtain ⟨T, xs, ds, rfl, hT, ll, it, q⟩ := h
    have el := ll.length
    have l3 := it.le
    refine ⟨_, (pss_cons (ps_if (pt_cmpR op_gt (pe_callB (lenK (K := K)) (by rfl) m_len PySem.boot_len (pa_cons (pv 0) pa_nil)) (pe_glob (v := .int 3) (by rfl) g_MOST ⟨_, rfl⟩) (nomark _))
        (pss_one ps_never)
        pss_nil)
      (pss_one (ps_for PassesOwn.never rfl (pi_listK (K := K) (pv 0)) (pg_name (i := 1) sc_asked_table.nd rfl (.inl rfl))
        (pss_one (ps_expr (pe_c C_asked_bar hr (by decide) pass0 (pa_cons (pv 1) pa_nil))))))), ?_⟩
    refine ⟨_, rfl, T, _, rfl, .inl hT, _, _, rfl, rfl, _, rfl, dF_ (by show ¬ (3 : Int) < ((_ : Nat) : Int); omega) ?_⟩
    refine ⟨_, rfl, T, rfl, ⟨_, hT⟩, for_list (K := K) (a := T) (xs := xs) (fun i σ H' => ∃ y : Option V, σ = [some (.ref T), y] ∧ H' = H) ⟨none, rfl, rfl⟩ (fun i σ H' _ ⟨_, _, e⟩ => e ▸ hT) ?_ ?_⟩
    · rintro i x σ H1 hi ⟨y, rfl, rfl⟩
      obtain ⟨t, d, hd, rfl, ht⟩ := ll.at hi
      exact ⟨_, rfl, t, d, rfl, SqL.of ht, isBarB_iff.mpr (it.is d (List.mem_of_getElem? hd)), _, rfl, rfl⟩
    · rintro σ H1 ⟨y, rfl, rfl⟩
      exact q
end
section
variable {P : Program} {w : World} {K : PySem.W.Frag} {mg : Str → Option Value} {base : Heap}
/-- asked_table(table), any table of lists of ints -/
theorem okx_asked_table {f : Addr} {fd : FuncData} (F : Fun K "asked_table" "asked_table" s_asked_table f fd) {cs : Nat → Addr} {cB : Addr} (T_kinds : Kinds K mg cs cB) (m_len : mg "len" = none) {t1 : Tok} (g_MOST : mg "MOST" = some (.int 3 t1)) (X_asked_bar : Cal P w K mg base (L2N.CX P w) 2 "asked_bar" ["bar"] (sp_xb K cs)) :
    FnOk P w K mg base (L2N.CX P w) 3 f fd ["table"] (sp_xt K cs) := by
  refine okN F sc_asked_table (fun vs H Q E h => ?_) (fun cdv A outer s H vs Q E hr h => ?_)
  · obtain ⟨T, xs, ds, o, rfl, _⟩ := h
    rfl
  · obtain ⟨T, xs, ds, o, rfl, hT, ll, tc, q, qe⟩ := h
    have el := ll.length
    refine ⟨_, (pss_cons (ps_if (pt_cmpR op_gt (pe_callB (lenK (K := K)) (by rfl) m_len PySem.boot_len (pa_cons (pv 0) pa_nil)) (pe_glob (v := .int 3) (by rfl) g_MOST ⟨_, rfl⟩) (nomark _))
        (pss_one (ps_own rfl T_kinds.o2 (L2N.takes_of rfl rfl rfl rfl)))
        pss_nil)
      (pss_one (ps_for PassesOwn.leaving rfl (pi_listK (K := K) (pv 0)) (pg_name (i := 1) sc_asked_table.nd rfl (.inl rfl))
        (pss_one (ps_expr (by exact (pe_cS X_asked_bar hr (by decide) (L2N.takes_of rfl rfl rfl rfl) (pa_cons (pv 1) pa_nil)))))))), ?_⟩
    refine ⟨_, rfl, T, _, rfl, .inl (SqL.of hT), _, _, rfl, rfl, _, rfl, d2_ (fun c => ?_) (fun c => ?_)⟩
    · have c' : (3 : Int) < ((xs.length : Nat) : Int) := c
      rcases tc with ⟨_, it⟩ | ⟨_, l3, _⟩ | ⟨e, _⟩
      · have := it.le
        omega
      · omega
      · exact qe 2 e _ (Same.refl H)
    have c' : ¬ (3 : Int) < ((xs.length : Nat) : Int) := c
    refine ⟨_, rfl, T, rfl, ⟨_, SqL.of hT⟩, for_list (K := K) (a := T) (xs := xs) (fun i σ H' => ∃ y : Option V, σ = [some (.ref T), y] ∧ Same H H' ∧ ∀ d ∈ ds.take i, isBarB d = true) ⟨none, rfl, Same.refl H, by simp⟩ (fun i σ H' _ ⟨_, _, s, _⟩ => SqL.of (s _ _ hT)) ?_ ?_⟩
    · rintro i x σ H1 hi ⟨y, rfl, s1, all⟩
      obtain ⟨t, d, hd, rfl, ht⟩ := (ll.same s1).at hi
      refine ⟨_, rfl, t, d, rfl, SqL.of ht, fun hb v H2 s2 => ?_, fun hb => ?_⟩
      · refine ⟨_, rfl, s1.trans s2, fun d' hd' => ?_⟩
        rw [take_more hd] at hd'
        rcases List.mem_append.mp hd' with h | h
        · exact all d' h
        · rw [List.mem_singleton.mp h]
          exact hb
      · rcases tc with ⟨_, it⟩ | ⟨e, _⟩ | ⟨_, l3⟩
        · have := isBarB_iff.mpr (it.is d (List.mem_of_getElem? hd))
          rw [hb] at this
          cases this
        · exact qe 0 e _ s1
        · omega
    · rintro σ H1 ⟨y, rfl, s1, all⟩
      rw [el, List.take_length] at all
      rcases tc with ⟨e, _⟩ | ⟨_, _, d, hd, hb⟩ | ⟨_, l3⟩
      · exact q e _ _ s1
      · rw [all d hd] at hb
        cases hb
      · omega
end
abbrev s_together_of : Stmt := topS 24
abbrev N_together_of : List Str := ["table", "known", "total", "bar"]
theorem sc_together_of : FnScope N_together_of ["table", "known"] (defScope s_together_of) := ⟨rfl, rfl, rfl, by decide +kernel, rfl, by decide +kernel, by decide +kernel⟩
section
variable {P : Program} {w : World} {K : PySem.W.Frag} {mg : Str → Option Value} {base : Heap}
/-- together_of(table, known) -/
def sp_together_of (K : PySem.W.Frag) : Sp := fun vs H Q _ => ∃ (T d : Addr) (xs : List V) (ds : List (List Int)) (kvs : List (List Key × V)), vs = [.ref T, .ref d] ∧ H T = some (.lst xs) ∧ LL H xs ds ∧ IsTable ds ∧ H d = some (.dT kvs) ∧ Known kvs ∧
  ∀ H' kvs', But d H H' → H' d = some (.dT kvs') → Known kvs' → Q (.int (xorL (worthsL ds) : Nat)) H'
theorem ok_together_of {f : Addr} {fd : FuncData} (F : Fun K "together_of" "together_of" s_together_of f fd) (C_added : Cal P w K mg base CX0 1 "added" ["one", "other"] (sp_added K)) (C_worth_of : ∀ n, Cal P w K mg base CX0 (n + 2) "worth_of" ["bar", "known"] (sp_worth_of K n)) :
    FnOk P w K mg base CX0 28 f fd ["table", "known"] (sp_together_of K) := by
  refine F.ok sc_together_of (fun vs H Q E h => ?_) (fun cdv A outer s H vs Q E hr h => ?_)
  · obtain ⟨T, d, xs, ds, kvs, rfl, _⟩ := h
    rfl
  · obtain ⟨T, d, xs, ds, kvs, rfl, hT, ll, it, hd, hk, q⟩ := h
    have el := ll.length
    have Td : T ≠ d := ne_of hT hd (by intro z; cases z)
    refine ⟨_, (pss_cons (ps_set (i := 2) sc_together_of.nd rfl (.inl rfl) pe_int)
      (pss_cons (ps_for PassesOwn.never rfl (pi_listK (K := K) (pv 0)) (pg_name (i := 3) sc_together_of.nd rfl (.inl rfl))
        (pss_one (ps_set (i := 2) sc_together_of.nd rfl (.inl rfl) (pe_c C_added hr (by decide) pass0 (pa_cons (pv 2) (pa_cons (pe_c (C_worth_of 25) hr (by decide) pass0 (pa_cons (pv 3) (pa_cons (pv 1) pa_nil))) pa_nil))))))
      (pss_one (ps_ret (pv 2))))), ?_⟩
    refine ⟨_, rfl, T, rfl, ⟨_, SqL.of hT⟩, for_list (K := K) (a := T) (xs := xs) (fun i σ H' => ∃ (y : Option V) (kvs1 : List (List Key × V)), σ = [some (.ref T), some (.ref d), some (.int (xorL (worthsL (ds.take i)) : Nat)), y] ∧ But d H H' ∧ H' d = some (.dT kvs1) ∧ Known kvs1)
      ⟨none, kvs, rfl, But.same (Same.refl _), hd, hk⟩ (fun i σ H' _ ⟨_, _, _, b, _⟩ => SqL.of (b _ _ Td hT)) ?_ ?_⟩
    · rintro i x σ H1 hi ⟨y, kvs1, rfl, b1, hd1, hk1⟩
      obtain ⟨t, e, he, rfl, ht⟩ := ll.at hi
      have td : t ≠ d := ne_of ht hd (by intro z; cases z)
      have ib := it.is e (List.mem_of_getElem? he)
      refine ⟨_, rfl, _, rfl, _, rfl, t, d, e, kvs1, rfl, SqL.of (b1 _ _ td ht), ib, pieces_25 ib, hd1, hk1, fun H2 kvs2 b2 hd2 hk2 => ?_⟩
      refine ⟨_, _, rfl, ?_⟩
      refine ⟨some (.ref t), kvs2, ?_, b1.trans b2, hd2, hk2⟩
      unfold worthsL
      rw [take_more he, List.map_append]
      show _ = [_, _, some (V.int ((xorL (List.map worthL (ds.take i) ++ [worthL e]) : Nat) : Int)), _]
      rw [xorL_snoc]
      all_goals rfl
    · rintro σ H1 ⟨y, kvs1, rfl, b1, hd1, hk1⟩
      rw [el, List.take_length]
      exact ⟨_, rfl, q H1 kvs1 b1 hd1 hk1⟩
end
abbrev s_together : Stmt := topS 25
abbrev N_together : List Str := ["table"]
theorem sc_together : FnScope N_together ["table"] (defScope s_together) := ⟨rfl, rfl, rfl, by decide +kernel, rfl, by decide +kernel, by decide +kernel⟩
section
variable {P : Program} {w : World} {K : PySem.W.Frag} {mg : Str → Option Value} {base : Heap}
/-- together(table), good tables -/
def sp_together (K : PySem.W.Frag) : Sp := fun vs H Q _ => ∃ (T : Addr) (xs : List V) (ds : List (List Int)), vs = [.ref T] ∧ H T = some (.lst xs) ∧ LL H xs ds ∧ IsTable ds ∧ ∀ H', Same H H' → Q (.int (xorL (worthsL ds) : Nat)) H'
theorem ok_together {f : Addr} {fd : FuncData} (F : Fun K "together" "together" s_together f fd) (C_asked_table : Cal P w K mg base CX0 3 "asked_table" ["table"] (sp_asked_table K)) (C_together_of : Cal P w K mg base CX0 28 "together_of" ["table", "known"] (sp_together_of K)) :
    FnOk P w K mg base CX0 29 f fd ["table"] (sp_together K) := by
  refine F.ok sc_together (fun vs H Q E h => ?_) (fun cdv A outer s H vs Q E hr h => ?_)
  · obtain ⟨T, xs, ds, rfl, _⟩ := h
    rfl
  · obtain ⟨T, xs, ds, rfl, hT, ll, it, q⟩ := h
    refine ⟨_, (pss_cons (ps_expr (pe_c C_asked_table hr (by decide) pass0 (pa_cons (pv 0) pa_nil)))
      (pss_one (ps_ret (pe_c C_together_of hr (by decide) pass0 (pa_cons (pv 0) (pa_cons pe_dnewT pa_nil)))))), ?_⟩
    refine ⟨_, rfl, T, xs, ds, rfl, SqL.of hT, ll, it, _, rfl, fun d nd => ?_⟩
    refine ⟨T, d, xs, ds, [], rfl, sNew nd _ _ hT, ll.same (sNew nd), it, upd_same, Known.nil, fun H' kvs' b _ _ => ?_⟩
    exact q H' fun c o e => b c o (ne_of_none e nd) (by rw [upd_ne (ne_of_none e nd)]; exact e)
end
section
variable {P : Program} {w : World} {K : PySem.W.Frag} {mg : Str → Option Value} {base : Heap}
/-- together(table), any table of lists of ints -/
theorem okx_together {f : Addr} {fd : FuncData} {cs : Nat → Addr} (F : Fun K "together" "together" s_together f fd) (C_asked_table : Cal P w K mg base CX0 3 "asked_table" ["table"] (sp_asked_table K)) (C_together_of : Cal P w K mg base CX0 28 "together_of" ["table", "known"] (sp_together_of K)) (X_asked_table : Cal P w K mg base (L2N.CX P w) 3 "asked_table" ["table"] (sp_xt K cs)) : FnOk P w K mg base (L2N.CX P w) 29 f fd ["table"] (sp_xt K cs) := by
  have bad : FnOk P w K mg base (L2N.CX P w) 4 f fd ["table"] (sp_badtable K cs) := by
    refine okN F sc_together (fun vs H Q E h => ?_) (fun cdv A outer s H vs Q E hr h => ?_)
    · obtain ⟨T, xs, ds, i, rfl, _⟩ := h
      rfl
    · obtain ⟨T, xs, ds, i, rfl, hT, ll, tc, qe⟩ := h
      refine ⟨_, pss_cons (ps_expr (by exact (pe_cS X_asked_table hr (by decide) (L2N.takes_of rfl rfl rfl rfl) (pa_cons (pv 0) pa_nil)))) pss_never, ?_⟩
      exact ⟨_, rfl, T, xs, ds, some i, rfl, hT, ll, tc, fun z => (nomatch z), fun j e => by rw [← Option.some.inj e]; exact qe⟩
  refine (two (lift0 (ok_together F C_asked_table C_together_of)) (bad.mono (by decide))).imp fun vs H Q E h => ?_
  obtain ⟨T, xs, ds, o, rfl, hT, ll, tc, qg, qb⟩ := h
  match o, tc with
  | none, tc =>
    have e : (none : Option Nat) = none := rfl
    have it : IsTable ds := by
      rcases tc with ⟨_, it⟩ | ⟨z, _⟩ | ⟨z, _⟩
      · exact it
      · cases z
      · cases z
    exact .inl ⟨T, xs, ds, rfl, hT, ll, it, fun H' s => qg e _ H' s⟩
  | some i, tc => exact .inr ⟨T, xs, ds, i, rfl, hT, ll, tc, qb i rfl⟩
end
abbrev s_wins : Stmt := topS 26
abbrev N_wins : List Str := ["table"]
theorem sc_wins : FnScope N_wins ["table"] (defScope s_wins) := ⟨rfl, rfl, rfl, by decide +kernel, rfl, by decide +kernel, by decide +kernel⟩
section
variable {P : Program} {w : World} {K : PySem.W.Frag} {mg : Str → Option Value} {base : Heap}
/-- wins(table), good tables -/
def sp_wins (K : PySem.W.Frag) : Sp := fun vs H Q _ => ∃ (T : Addr) (xs : List V) (ds : List (List Int)), vs = [.ref T] ∧ H T = some (.lst xs) ∧ LL H xs ds ∧ IsTable ds ∧ ∀ H', Same H H' → Q (.bl (decide (xorL (worthsL ds) ≠ 0))) H'
theorem ok_wins {f : Addr} {fd : FuncData} (F : Fun K "wins" "wins" s_wins f fd) (C_together : Cal P w K mg base CX0 29 "together" ["table"] (sp_together K)) : FnOk P w K mg base CX0 30 f fd ["table"] (sp_wins K) := by
  refine F.ok sc_wins (fun vs H Q E h => ?_) (fun cdv A outer s H vs Q E hr h => ?_)
  · obtain ⟨T, xs, ds, rfl, _⟩ := h
    rfl
  · obtain ⟨T, xs, ds, rfl, hT, ll, it, q⟩ := h
    refine ⟨_, (pss_one (ps_ret (pe_cmpR op_gt (pe_c C_together hr (by decide) pass0 (pa_cons (pv 0) pa_nil)) pe_int (nomark _)))), ?_⟩
    refine ⟨_, rfl, T, xs, ds, rfl, hT, ll, it, fun H1 s1 => ⟨_, _, rfl, rfl, ?_⟩⟩
    have e : decide ((0 : Int) < ((xorL (worthsL ds) : Nat) : Int)) = decide (xorL (worthsL ds) ≠ 0) := by
      by_cases h : xorL (worthsL ds) = 0
      · rw [decide_eq_false (by omega), decide_eq_false (fun z => z h)]
      · rw [decide_eq_true (by omega), decide_eq_true h]
    have q1 := q H1 s1
    rw [← e] at q1
    exact q1
end
section
variable {P : Program} {w : World} {K : PySem.W.Frag} {mg : Str → Option Value} {base : Heap}
/-- wins(table), any table of lists of ints -/
theorem okx_wins {f : Addr} {fd : FuncData} {cs : Nat → Addr} (F : Fun K "wins" "wins" s_wins f fd) (C_together : Cal P w K mg base CX0 29 "together" ["table"] (sp_together K)) (X_together : Cal P w K mg base (L2N.CX P w) 29 "together" ["table"] (sp_xt K cs)) : FnOk P w K mg base (L2N.CX P w) 30 f fd ["table"] (sp_xt K cs) := by
  have bad : FnOk P w K mg base (L2N.CX P w) 30 f fd ["table"] (sp_badtable K cs) := by
    refine okN F sc_wins (fun vs H Q E h => ?_) (fun cdv A outer s H vs Q E hr h => ?_)
    · obtain ⟨T, xs, ds, i, rfl, _⟩ := h
      rfl
    · obtain ⟨T, xs, ds, i, rfl, hT, ll, tc, qe⟩ := h
      refine ⟨_, pss_one (ps_ret (pe_cmpR op_gt (by exact (pe_cS X_together hr (by decide) (L2N.takes_of rfl rfl rfl rfl) (pa_cons (pv 0) pa_nil))) pe_int (nomark _))), ?_⟩
      exact ⟨_, rfl, T, xs, ds, some i, rfl, hT, ll, tc, fun z => (nomatch z), fun j e => by rw [← Option.some.inj e]; exact qe⟩
  refine (two (lift0 (ok_wins F C_together)) (bad.mono (by decide))).imp fun vs H Q E h => ?_
  obtain ⟨T, xs, ds, o, rfl, hT, ll, tc, qg, qb⟩ := h
  match o, tc with
  | none, tc =>
    have e : (none : Option Nat) = none := rfl
    have it : IsTable ds := by
      rcases tc with ⟨_, it⟩ | ⟨z, _⟩ | ⟨z, _⟩
      · exact it
      · cases z
      · cases z
    exact .inl ⟨T, xs, ds, rfl, hT, ll, it, fun H' s => qg e _ H' s⟩
  | some i, tc => exact .inr ⟨T, xs, ds, i, rfl, hT, ll, tc, qb i rfl⟩
end
abbrev s_winning : Stmt := topS 27
abbrev N_winning : List Str := ["table", "known", "total", "found", "number", "bar", "aim", "row", "column"]
theorem sc_winning : FnScope N_winning ["table"] (defScope s_winning) := ⟨rfl, rfl, rfl, by decide +kernel, rfl, by decide +kernel, by decide +kernel⟩
section
variable {P : Program} {w : World} {K : PySem.W.Frag} {mg : Str → Option Value} {base : Heap}
/-- winning(table), good tables -/
def sp_winning (K : PySem.W.Frag) : Sp := fun vs H Q _ => ∃ (T : Addr) (xs : List V) (ds : List (List Int)), vs = [.ref T] ∧ H T = some (.lst xs) ∧ LL H xs ds ∧ IsTable ds ∧
  ∀ H' p ys, Same H H' → H p = none → H' p = some (.lst ys) → TL H' ys (winL ds) → Q (.ref p) H'
theorem ok_winning {f : Addr} {fd : FuncData} (F : Fun K "winning" "winning" s_winning f fd) (m_enumerate : mg "enumerate" = none) (C_asked_table : Cal P w K mg base CX0 3 "asked_table" ["table"] (sp_asked_table K)) (C_together_of : Cal P w K mg base CX0 28 "together_of" ["table", "known"] (sp_together_of K))
    (C_added : Cal P w K mg base CX0 1 "added" ["one", "other"] (sp_added K)) (C_worth_of : ∀ n, Cal P w K mg base CX0 (n + 2) "worth_of" ["bar", "known"] (sp_worth_of K n)) (C_bites_of : Cal P w K mg base CX0 1 "bites_of" ["bar"] (sp_bites_of K))
    (C_behind : Cal P w K mg base CX0 1 "behind" ["bar", "row", "column"] (sp_behind K)) : FnOk P w K mg base CX0 29 f fd ["table"] (sp_winning K) := by
  refine F.ok sc_winning (fun vs H Q E h => ?_) (fun cdv A outer s H vs Q E hr h => ?_)
  · obtain ⟨T, xs, ds, rfl, _⟩ := h
    rfl
  · obtain ⟨T, xs, ds, rfl, hT, ll, it, q⟩ := h
    have el := ll.length
    have l3 := it.le
    refine ⟨_, (pss_cons (ps_expr (pe_c C_asked_table hr (by decide) pass0 (pa_cons (pv 0) pa_nil)))
      (pss_cons (ps_set (i := 1) sc_winning.nd rfl (.inl rfl) pe_dnewT)
      (pss_cons (ps_set (i := 2) sc_winning.nd rfl (.inl rfl) (pe_c C_together_of hr (by decide) pass0 (pa_cons (pv 0) (pa_cons (pv 1) pa_nil))))
      (pss_cons (ps_set (i := 3) sc_winning.nd rfl (.inl rfl) (pe_lst pa_nil))
      (pss_cons (ps_for PassesOwn.never rfl (pi_enumK (K := K) (by rfl) m_enumerate (pa_cons (pv 0) pa_nil)) (pg_tupK (K := K) rfl (pgs_cons (pg_name (i := 4) sc_winning.nd rfl (.inl rfl)) (pgs_cons (pg_name (i := 5) sc_winning.nd rfl (.inl rfl)) pgs_nil)))
        (pss_cons (ps_set (i := 6) sc_winning.nd rfl (.inl rfl) (pe_c C_added hr (by decide) pass0 (pa_cons (pv 2) (pa_cons (pe_c (C_worth_of 25) hr (by decide) pass0 (pa_cons (pv 5) (pa_cons (pv 1) pa_nil))) pa_nil))))
        (pss_one (ps_for PassesOwn.never rfl (pi_listK (K := K) (pe_c C_bites_of hr (by decide) pass0 (pa_cons (pv 5) pa_nil))) (pg_tupK (K := K) rfl (pgs_cons (pg_name (i := 7) sc_winning.nd rfl (.inl rfl)) (pgs_cons (pg_name (i := 8) sc_winning.nd rfl (.inl rfl)) pgs_nil)))
          (pss_one (ps_if (pt_cmpR op_eq (pe_c (C_worth_of 25) hr (by decide) pass0 (pa_cons (pe_c C_behind hr (by decide) pass0 (pa_cons (pv 5) (pa_cons (pv 7) (pa_cons (pv 8) pa_nil)))) (pa_cons (pv 1) pa_nil))) (pv 6) (nomark _))
            (pss_one (ps_expr (pe_bmK (K := K) PySem.F.plainAttrs_list PySem.F.slot_list_append PySem.F.type_list_append mt_append (pv 3) (pa_cons (pe_tup (pa_cons (pv 4) (pa_cons (pv 7) (pa_cons (pv 8) pa_nil)))) pa_nil))))
            pss_nil))))))
      (pss_one (ps_ret (pv 3)))))))), ?_⟩
    refine ⟨_, rfl, T, xs, ds, rfl, SqL.of hT, ll, it, ?_⟩
    -- known = {}; total; found = []
    intro d nd
    have s1 : Same H (upd H d (.dT [])) := sNew nd
    have hd1 : upd H d (.dT []) d = some (.dT []) := upd_same
    generalize upd H d (.dT []) = H1 at s1 hd1 ⊢
    refine ⟨_, rfl, _, rfl, T, d, xs, ds, [], rfl, s1 _ _ hT, ll.same s1, it, hd1, Known.nil, fun H2 kvs2 b2 hd2 hk2 => ?_⟩
    have s2 : Same H H2 := fun c o e => b2 c o (ne_of_none e nd) (s1 c o e)
    refine ⟨Nat.zero_le _, fun g ng => ?_⟩
    have s3 : Same H2 (upd H2 g (.lst [])) := sNew ng
    have hg3 : upd H2 g (.lst []) g = some (.lst []) := upd_same
    have hd3 := s3 _ _ hd2
    generalize upd H2 g (.lst []) = H3 at s3 hg3 hd3 ⊢
    have gn : H g = none := s2.free ng
    have dg : d ≠ g := ne_of hd3 hg3 (by intro z; cases z)
    generalize htot : xorL (worthsL ds) = tot
    refine ⟨_, rfl, T, xs, rfl, SqL.of (s3 _ _ (s2 _ _ hT)), for_enum (K := K) (a := T) (xs := xs) (fun i σ H' => ∃ (y4 y5 y6 y7 y8 : Option V) (kvs : List (List Key × V)) (ys : List V), σ = [some (.ref T), some (.ref d), some (.int (tot : Nat)), some (.ref g), y4, y5, y6, y7, y8] ∧
        Same H H' ∧ H' d = some (.dT kvs) ∧ Known kvs ∧ H' g = some (.lst ys) ∧ TL H' ys (winFrom tot 0 (ds.take i)))
      ⟨none, none, none, none, none, kvs2, [], rfl, s2.trans s3, hd3, hk2, hg3, TL.nil⟩ (fun i σ H' _ ⟨_, _, _, _, _, _, _, _, s, _⟩ => SqL.of (s _ _ hT)) ?_ ?_⟩
    · rintro i x σ H4 t0 hi ⟨y4, y5, y6, y7, y8, kvs4, ys, rfl, s4, hd4, hk4, hg4, ty⟩ nt0
      obtain ⟨t, e, he, rfl, ht⟩ := ll.at hi
      have ib := it.is e (List.mem_of_getElem? he)
      have hil : i < ds.length := (List.getElem?_eq_some_iff.mp he).1
      have wl := winFrom_len tot 0 (ds.take i) fun c hc => it.is c (List.mem_of_mem_take hc)
      rw [List.length_take] at wl
      have s5 : Same H4 (upd H4 t0 (.tup [.int (i : Nat), .ref t])) := sNew nt0
      have ht5 : upd H4 t0 (.tup [.int (i : Nat), .ref t]) t0 = some (.tup [.int (i : Nat), .ref t]) := upd_same
      generalize upd H4 t0 (.tup [.int (i : Nat), .ref t]) = H5 at s5 ht5 ⊢
      refine ⟨t0, _, rfl, SqT.of ht5, rfl, _, _, rfl, _, _, rfl, rfl, ?_⟩
      -- aim
      refine ⟨_, rfl, _, rfl, _, rfl, t, d, e, kvs4, rfl, SqL.of (s5 _ _ (s4 _ _ ht)), ib, pieces_25 ib, s5 _ _ hd4, hk4, fun H6 kvs6 b6 hd6 hk6 => ?_⟩
      refine ⟨tot, worthL e, rfl, ?_⟩
      have hg6 := b6 _ _ dg.symm (s5 _ _ hg4)
      have ty6 := (ty.keep (KT.same s5)).keep (b6.kt (s5 _ _ hd4))
      have s6 : Same H H6 := fun c o h => b6 c o (ne_of_none h nd) (s5 _ _ (s4 _ _ h))
      -- the bites
      refine ⟨_, rfl, t, e, rfl, SqL.of (s6 _ _ ht), ib, fun H7 p zs s7 np hp tp => ?_⟩
      have hd7 := s7 _ _ hd6
      have hg7 := s7 _ _ hg6
      have pd : p ≠ d := ne_of_none hd6 np |>.symm
      have pg : p ≠ g := ne_of_none hg6 np |>.symm
      have ezs : zs.length = (bitesL e).length := by rw [tp.length, List.length_map]
      refine ⟨p, rfl, ⟨_, SqL.of hp⟩, for_list (K := K) (a := p) (xs := zs) (fun j σ H' => ∃ (y7 y8 : Option V) (kvs : List (List Key × V)) (ys : List V), σ = [some (.ref T), some (.ref d), some (.int (tot : Nat)), some (.ref g), some (.int (i : Nat)), some (.ref t), some (.int ((tot ^^^ worthL e : Nat) : Int)), y7, y8] ∧
          But2 d g H7 H' ∧ H' d = some (.dT kvs) ∧ Known kvs ∧ H' g = some (.lst ys) ∧ TL H' ys (winFrom tot 0 (ds.take i) ++ winBar tot i e ((bitesL e).take j)))
        ⟨y7, y8, kvs6, ys, rfl, But2.refl, hd7, hk6, hg7, by rw [show winBar tot i e ((bitesL e).take 0) = [] from rfl, List.append_nil]; exact ty6.keep (KT.same s7)⟩ (fun j σ H' _ ⟨_, _, _, _, _, b, _⟩ => SqL.of (b _ _ pd pg hp)) ?_ ?_⟩
      · rintro j x σ H8 hj ⟨y7, y8, kvs8, ys8, rfl, b8, hd8, hk8, hg8, ty8⟩
        obtain ⟨u, c, hc, rfl, hu⟩ := tp.bite hj
        have hcm : c ∈ bitesL e := List.mem_of_getElem? hc
        have ud : u ≠ d := ne_of hu hd7 (by intro z; cases z)
        have ug : u ≠ g := ne_of hu hg7 (by intro z; cases z)
        have s8 : Same H H8 := But2.same0 (s6.trans s7) nd gn b8
        have yl : ys8.length ≤ 1000 := by
          have h1 := winBar_len tot i e ((bitesL e).take j)
          have h2 := bitesL_len ib
          rw [List.length_take] at h1
          rw [ty8.length, List.length_append]
          omega
        refine ⟨u, _, rfl, SqT.of (b8 _ _ ud ug hu), rfl, _, _, rfl, _, _, rfl, rfl, ?_⟩
        refine ⟨_, rfl, _, rfl, _, rfl, t, e, c.1, c.2, rfl, SqL.of (s8 _ _ ht), ib, hcm, fun H9 v s9 nv hv => ?_⟩
        refine ⟨_, rfl, v, d, _, kvs8, rfl, SqL.of hv, isBar_behind ib hcm, pieces_25 (isBar_behind ib hcm), s9 _ _ hd8, hk8, fun H10 kvs10 b10 hd10 hk10 => ?_⟩
        have hg10 := b10 _ _ dg.symm (s9 _ _ hg8)
        have bb : But2 d g H7 H10 := b8.trans ((But2.same s9).trans (But2.but b10))
        have ty10 := (ty8.keep (KT.same s9)).keep (b10.kt (s9 _ _ hd8))
        have more := winBar_more tot i e hc
        refine ⟨_, rfl, rfl, _, rfl, d2_ (fun z => ?_) (fun z => ?_)⟩
        · have hw : isWin tot e c = true := decide_eq_true (by have := int_eq z; unfold wB; omega)
          rw [if_pos hw] at more
          refine ⟨_, rfl, .inl ⟨rfl, _, SqL.of hg10⟩, _, rfl, _, rfl, _, rfl, by show 3 ≤ sizeLine; decide, fun r nr => ?_⟩
          have gr : g ≠ r := ne_of_none hg10 nr
          have s11 : Same H10 (upd H10 r (.tup [.int (i : Nat), .int (c.1 : Nat), .int (c.2 : Nat)])) := sNew nr
          have hr11 : upd H10 r (.tup [.int (i : Nat), .int (c.1 : Nat), .int (c.2 : Nat)]) r = some (.tup ((tri i c).map V.int)) := upd_same
          generalize upd H10 r (.tup [.int (i : Nat), .int (c.1 : Nat), .int (c.2 : Nat)]) = H11 at s11 hr11 ⊢
          have hg11 := s11 _ _ hg10
          refine ⟨g, ys8, _, rfl, rfl, hg11, small' (by omega), ?_⟩
          refine ⟨_, _, kvs10, ys8 ++ [.ref r], rfl, bb.trans ((But2.same s11).trans But2.at), by rw [upd_ne dg]; exact s11 _ _ hd10, hk10, upd_same, ?_⟩
          rw [more, ← List.append_assoc]
          exact TL.keep (KT.lst hg11) ((ty10.keep (KT.same s11)).snoc hr11)
        · have hw : ¬ isWin tot e c = true := fun h => z (by
            have h' : wB e c = tot ^^^ worthL e := of_decide_eq_true h
            show V.int ((worthL (behindL e c.1 c.2) : Nat) : Int) = V.int ((tot ^^^ worthL e : Nat) : Int)
            rw [← h']
            all_goals rfl)
          rw [if_neg hw, List.append_nil] at more
          exact ⟨_, _, kvs10, ys8, rfl, bb, hd10, hk10, hg10, by rw [more]; exact ty10⟩
      · rintro σ H8 ⟨y7, y8, kvs8, ys8, rfl, b8, hd8, hk8, hg8, ty8⟩
        rw [ezs, List.take_length] at ty8
        refine ⟨_, _, _, _, _, kvs8, ys8, rfl, But2.same0 (s6.trans s7) nd gn b8, hd8, hk8, hg8, ?_⟩
        rw [winFrom_more tot he]
        exact ty8
    · rintro σ H4 ⟨y4, y5, y6, y7, y8, kvs4, ys, rfl, s4, hd4, hk4, hg4, ty⟩
      rw [el, List.take_length] at ty
      refine ⟨_, rfl, q H4 g ys s4 gn hg4 ?_⟩
      unfold winL
      rw [htot]
      exact ty
end
section
variable {P : Program} {w : World} {K : PySem.W.Frag} {mg : Str → Option Value} {base : Heap}
/-- winning(table), any table of lists of ints -/
theorem okx_winning {f : Addr} {fd : FuncData} {cs : Nat → Addr} (F : Fun K "winning" "winning" s_winning f fd) (m_enumerate : mg "enumerate" = none) (C_asked_table : Cal P w K mg base CX0 3 "asked_table" ["table"] (sp_asked_table K)) (C_together_of : Cal P w K mg base CX0 28 "together_of" ["table", "known"] (sp_together_of K))
    (C_added : Cal P w K mg base CX0 1 "added" ["one", "other"] (sp_added K)) (C_worth_of : ∀ n, Cal P w K mg base CX0 (n + 2) "worth_of" ["bar", "known"] (sp_worth_of K n)) (C_bites_of : Cal P w K mg base CX0 1 "bites_of" ["bar"] (sp_bites_of K))
    (C_behind : Cal P w K mg base CX0 1 "behind" ["bar", "row", "column"] (sp_behind K)) (X_asked_table : Cal P w K mg base (L2N.CX P w) 3 "asked_table" ["table"] (sp_xt K cs)) : FnOk P w K mg base (L2N.CX P w) 29 f fd ["table"] (sp_xt K cs) := by
  have bad : FnOk P w K mg base (L2N.CX P w) 4 f fd ["table"] (sp_badtable K cs) := by
    refine okN F sc_winning (fun vs H Q E h => ?_) (fun cdv A outer s H vs Q E hr h => ?_)
    · obtain ⟨T, xs, ds, i, rfl, _⟩ := h
      rfl
    · obtain ⟨T, xs, ds, i, rfl, hT, ll, tc, qe⟩ := h
      refine ⟨_, pss_cons (ps_expr (by exact (pe_cS X_asked_table hr (by decide) (L2N.takes_of rfl rfl rfl rfl) (pa_cons (pv 0) pa_nil)))) pss_never, ?_⟩
      exact ⟨_, rfl, T, xs, ds, some i, rfl, hT, ll, tc, fun z => (nomatch z), fun j e => by rw [← Option.some.inj e]; exact qe⟩
  refine (two (lift0 (ok_winning F m_enumerate C_asked_table C_together_of C_added C_worth_of C_bites_of C_behind)) (bad.mono (by decide))).imp fun vs H Q E h => ?_
  obtain ⟨T, xs, ds, o, rfl, hT, ll, tc, qg, qb⟩ := h
  match o, tc with
  | none, tc =>
    have e : (none : Option Nat) = none := rfl
    have it : IsTable ds := by
      rcases tc with ⟨_, it⟩ | ⟨z, _⟩ | ⟨z, _⟩
      · exact it
      · cases z
      · cases z
    exact .inl ⟨T, xs, ds, rfl, hT, ll, it, fun H' p _ s _ _ _ => qg e _ H' s⟩
  | some i, tc => exact .inr ⟨T, xs, ds, i, rfl, hT, ll, tc, qb i rfl⟩
end
abbrev s_moved : Stmt := topS 28
abbrev N_moved : List Str := ["table", "number", "row", "column", "found", "bar"]
theorem sc_moved : FnScope N_moved ["table", "number", "row", "column"] (defScope s_moved) := ⟨rfl, rfl, rfl, by decide +kernel, rfl, by decide +kernel, by decide +kernel⟩
section
variable {P : Program} {w : World} {K : PySem.W.Frag} {mg : Str → Option Value} {base : Heap}
/-- a bite that can be made on this table -/
def CanBite (ds : List (List Int)) (n r c : Int) : Prop := ∃ (k : Nat) (d : List Int), n = k ∧ ds[k]? = some d ∧ [r, c] ∈ (bitesL d).map pr
/-- moved(table, number, row, column), the table good: a new table, or an error -/
def sp_moved (K : PySem.W.Frag) (cs : Nat → Addr) : Sp := fun vs H Q E => ∃ (T : Addr) (xs : List V) (ds : List (List Int)) (n r c : Int), vs = [.ref T, .int n, .int r, .int c] ∧ H T = some (.lst xs) ∧ LL H xs ds ∧ IsTable ds ∧
  (∀ (k i j : Nat) (d : List Int), n = k → r = i → c = j → ds[k]? = some d → (i, j) ∈ bitesL d → ∀ H' p ys, Same H H' → H p = none → H' p = some (.lst ys) → LL H' ys (ds.set k (behindL d i j)) → NewL H ys → V.ref p ∉ ys → Q (.ref p) H') ∧
  (¬ CanBite ds n r c → ∀ H', Same H H' → E (.ref (cs 1)) none H')
theorem ok_moved {f : Addr} {fd : FuncData} (F : Fun K "moved" "moved" s_moved f fd) (m_len : mg "len" = none) (m_list : mg "list" = none) (C_asked_table : Cal P w K mg base CX0 3 "asked_table" ["table"] (sp_asked_table K)) (C_bites_of : Cal P w K mg base CX0 1 "bites_of" ["bar"] (sp_bites_of K))
    (C_behind : Cal P w K mg base CX0 1 "behind" ["bar", "row", "column"] (sp_behind K)) {cs : Nat → Addr} {cB : Addr} (T_kinds : Kinds K mg cs cB) : FnOk P w K mg base (L2N.CX P w) 4 f fd ["table", "number", "row", "column"] (sp_moved K cs) := by
  refine okN F sc_moved (fun vs H Q E h => ?_) (fun cdv A outer s H vs Q E hr h => ?_)
  · obtain ⟨T, xs, ds, n, r, c, rfl, _⟩ := h
    rfl
  · obtain ⟨T, xs, ds, nI, rI', cI, rfl, hT, ll, it, q, qe⟩ := h
    have el := ll.length
    have l3 := it.le
    refine ⟨_, (pss_cons (ps_expr (pe_c C_asked_table hr (by decide) pass0 (pa_cons (pv 0) pa_nil)))
      (pss_cons (ps_if (PW.pt (pw_or (pt_cmpR op_lt (pv 1) pe_int (nomark _)) (pw_or (pt_cmpR op_ge (pv 1) (pe_callB (lenK (K := K)) (by rfl) m_len PySem.boot_len (pa_cons (pv 0) pa_nil)) (nomark _)) (pw_or1 (pt_cmpR (notInDK (K := K) (hu65 hr)) (pe_tup (pa_cons (pv 2) (pa_cons (pv 3) pa_nil))) (pe_c C_bites_of hr (by decide) pass0 (pa_cons (pe_ix (ixK (K := K)) (pv 0) (pv 1) (fun _ _ => rfl)) pa_nil)) (by rfl))))))
        (pss_one (ps_own rfl T_kinds.o1 (L2N.takes_of rfl rfl rfl rfl)))
        pss_nil)
      (pss_cons (ps_setLc (i := 4) (own := [("bar", 5)]) (g := gName 5) (tt := tYes) rfl sc_moved.nd rfl rfl (sw_true rfl rfl rfl (by decide +kernel)) (pi_listK (K := K) (pv 0)) (blkOk_by (N := N_moved) (sc := defScope s_moved) (by decide +kernel)) (fun _ _ _ _ _ => (pg_name (i := 5) sc_moved.nd rfl (.inl rfl))) (fun _ _ _ _ _ => pts_nil) (fun _ _ _ _ _ => (pe_callTy (listK (K := K)) (by rfl) m_list (by decide +kernel) (pa_cons (pv 5) pa_nil))))
      (pss_cons (ps_asg (pe_c C_behind hr (by decide) pass0 (pa_cons (pe_ix (ixK (K := K)) (pv 0) (pv 1) (fun _ _ => rfl)) (pa_cons (pv 2) (pa_cons (pv 3) pa_nil)))) (pg_sub (pv 4) (pv 1) set_list))
      (pss_one (ps_ret (pv 4))))))), ?_⟩
    refine ⟨_, rfl, T, xs, ds, rfl, SqL.of hT, ll, it, ?_⟩
    -- the test
    refine ⟨_, rfl, _, _, rfl, rfl, _, rfl, d2_ (fun c1 => iteT (qe (fun ⟨k, d, e, _⟩ => by omega) H (Same.refl H))) (fun c1 => ?_)⟩
    refine ⟨_, rfl, _, rfl, T, _, rfl, .inl (SqL.of hT), _, _, rfl, rfl, _, rfl, d2_ (fun c2 => iteT (qe (fun ⟨k, d, e, hk, _⟩ => by have := (List.getElem?_eq_some_iff.mp hk).1; omega) H (Same.refl H))) (fun c2 => ?_)⟩
    obtain ⟨n, rfl, hnl⟩ : ∃ n : Nat, nI = (n : Int) ∧ n < ds.length := ⟨nI.toNat, by omega, by omega⟩
    have hn := List.getElem?_eq_getElem hnl
    generalize ds[n] = d at hn
    have ib := it.is d (List.mem_of_getElem? hn)
    obtain ⟨t, ht, hdt⟩ := ll.get hn
    refine ⟨_, rfl, _, rfl, by show 2 ≤ sizeLine; decide, fun u nu => ?_⟩
    have s1 : Same H (upd H u (.tup [.int rI', .int cI])) := sNew nu
    have hu1 : upd H u (.tup [.int rI', .int cI]) u = some (.tup ([rI', cI].map V.int)) := upd_same
    generalize upd H u (.tup [.int rI', .int cI]) = H1 at s1 hu1 ⊢
    refine ⟨_, rfl, _, rfl, T, _, _, _, rfl, rfl, SqL.of (s1 _ _ hT), atI_nat ht, t, d, rfl, SqL.of (s1 _ _ hdt), ib, fun H2 p zs s2 np hp tp => ?_⟩
    refine ⟨_, _, dp_tup (s2 _ _ hu1), dp_tl (SqL.of hp) tp, shaped_tup _, shaped_tups _, _, rfl, ?_⟩
    have s12 := s1.trans s2
    rw [any_tup]
    refine n2_ (fun hm => ?_) (fun hm => ?_)
    · refine qe (fun ⟨k, d', e, hk, hb⟩ => hm ?_) H2 s12
      have : n = k := by omega
      rw [← this, hn] at hk
      rw [Option.some.inj hk]
      exact hb
    obtain ⟨⟨r, c⟩, hmb, e⟩ := List.mem_map.mp hm
    have e : [(r : Int), (c : Int)] = [rI', cI] := e
    injection e with e1 e2
    injection e2 with e2 _
    subst e1 e2
    -- found = [list(bar) for bar in table]
    refine ⟨_, rfl, T, rfl, ⟨_, SqL.of (s12 _ _ hT)⟩, fun G nG => ?_⟩
    refine copy_loop (T := T) (xs := xs) (ds := ds) (by show 5 < 6; omega) (SqL.of (s12 _ _ hT)) (ll.same s12) (by omega) nG fun H3 ys s3 hG lG nw nm => ?_
    have s13 := s12.trans s3
    -- found[number] = behind(..)
    refine ⟨_, rfl, _, rfl, T, _, _, _, rfl, rfl, SqL.of (s13 _ _ hT), atI_nat ht, _, rfl, _, rfl, t, d, r, c, rfl, SqL.of (s13 _ _ hdt), ib, hmb, fun H4 g s4 ng hg => ?_⟩
    have hG4 := s4 _ _ hG
    have gG : g ≠ G := (ne_of_none hG ng).symm
    have eyl : ys.length = ds.length := lG.length
    have GH : H G = none := s12.free nG
    refine ⟨_, rfl, _, rfl, G, ys, (n : Int), n, rfl, rfl, hG4, ?_, ?_⟩
    · unfold ixN
      rw [if_pos (by omega), if_pos (by omega), Int.toNat_natCast]
    · refine ⟨_, rfl, q n r c d rfl rfl rfl hn hmb _ G (ys.set n (.ref g)) (sPut (s13.trans s4) GH) GH upd_same ?_ ?_ ?_⟩
      · refine LL.set (by rw [upd_ne gG]; exact hg) n (LL.keepM lG fun b cs hb e => ?_)
        have bG : b ≠ G := fun z => nm (by rw [← z]; exact hb)
        rw [upd_ne bG]
        exact s4 _ _ e
      · intro y hy v e
        rcases List.mem_or_eq_of_mem_set hy with h' | h'
        · exact s12.free (nw y h' v e)
        · rw [h'] at e
          rw [← V.ref.inj e]
          exact s13.free ng
      · intro z
        rcases List.mem_or_eq_of_mem_set z with h' | h'
        · exact nm h'
        · exact gG (V.ref.inj h').symm
end
section
variable {P : Program} {w : World} {K : PySem.W.Frag} {mg : Str → Option Value} {base : Heap}
/-- moved(table, 0, 0, 0), any table of lists of ints -/
def sp_x_moved (K : PySem.W.Frag) (cs : Nat → Addr) : Sp := fun vs H _ E => ∃ (T : Addr) (xs : List V) (ds : List (List Int)) (o : Option Nat), vs = [.ref T, .int 0, .int 0, .int 0] ∧ H T = some (.lst xs) ∧ LL H xs ds ∧ TCase ds o ∧ (o = none → ∀ H', Same H H' → E (.ref (cs 1)) none H') ∧ (∀ i, o = some i → ∀ H', Same H H' → E (.ref (cs i)) none H')
theorem okx_moved {f : Addr} {fd : FuncData} (F : Fun K "moved" "moved" s_moved f fd) (m_len : mg "len" = none) (m_list : mg "list" = none) (C_asked_table : Cal P w K mg base CX0 3 "asked_table" ["table"] (sp_asked_table K)) (C_bites_of : Cal P w K mg base CX0 1 "bites_of" ["bar"] (sp_bites_of K))
    (C_behind : Cal P w K mg base CX0 1 "behind" ["bar", "row", "column"] (sp_behind K)) {cs : Nat → Addr} {cB : Addr} (T_kinds : Kinds K mg cs cB) (X_asked_table : Cal P w K mg base (L2N.CX P w) 3 "asked_table" ["table"] (sp_xt K cs)) : FnOk P w K mg base (L2N.CX P w) 4 f fd ["table", "number", "row", "column"] (sp_x_moved K cs) := by
  have bad : FnOk P w K mg base (L2N.CX P w) 4 f fd ["table", "number", "row", "column"] (fun vs H _ E => ∃ (T : Addr) (xs : List V) (ds : List (List Int)) (i : Nat), vs = [.ref T, .int 0, .int 0, .int 0] ∧ H T = some (.lst xs) ∧ LL H xs ds ∧ TCase ds (some i) ∧ ∀ H', Same H H' → E (.ref (cs i)) none H') := by
    refine okN F sc_moved (fun vs H Q E h => ?_) (fun cdv A outer s H vs Q E hr h => ?_)
    · obtain ⟨T, xs, ds, i, rfl, _⟩ := h
      rfl
    · obtain ⟨T, xs, ds, i, rfl, hT, ll, tc, qe⟩ := h
      refine ⟨_, pss_cons (ps_expr (by exact (pe_cS X_asked_table hr (by decide) (L2N.takes_of rfl rfl rfl rfl) (pa_cons (pv 0) pa_nil)))) pss_never, ?_⟩
      exact ⟨_, rfl, T, xs, ds, some i, rfl, hT, ll, tc, fun z => (nomatch z), fun j e => by rw [← Option.some.inj e]; exact qe⟩
  refine (two (ok_moved F m_len m_list C_asked_table C_bites_of C_behind T_kinds) bad).imp fun vs H Q E h => ?_
  obtain ⟨T, xs, ds, o, rfl, hT, ll, tc, qg, qb⟩ := h
  match o, tc with
  | none, tc =>
    have it : IsTable ds := by
      rcases tc with ⟨_, it⟩ | ⟨z, _⟩ | ⟨z, _⟩
      · exact it
      · cases z
      · cases z
    have no : ¬ CanBite ds 0 0 0 := by
      rintro ⟨k, d, _, hd, hb⟩
      have hb : pr (0, 0) ∈ (bitesL d).map pr := hb
      obtain ⟨x, _, _, h⟩ := mem_bitesL.mp (pr_mem.mp hb)
      exact absurd h (by decide)
    exact .inl ⟨T, xs, ds, 0, 0, 0, rfl, hT, ll, it, fun k i j d ek ei ej hd hb => absurd ⟨k, d, ek, hd, by
      have e1 : i = 0 := by omega
      have e2 : j = 0 := by omega
      subst e1 e2
      exact List.mem_map_of_mem (f := pr) hb⟩ no, fun _ => qg rfl⟩
  | some i, tc => exact .inr ⟨T, xs, ds, i, rfl, hT, ll, tc, qb i rfl⟩
end
abbrev s_shown : Stmt := topS 30
abbrev N_shown : List Str := ["table", "pieces", "bar"]
theorem sc_shown : FnScope N_shown ["table"] (defScope s_shown) := ⟨rfl, rfl, rfl, by decide +kernel, rfl, by decide +kernel, by decide +kernel⟩
section
variable {P : Program} {w : World} {K : PySem.W.Frag} {mg : Str → Option Value} {base : Heap}
/-- shown(table), good tables -/
def sp_shown (K : PySem.W.Frag) : Sp := fun vs H Q _ => ∃ (T : Addr) (xs : List V) (ds : List (List Int)), vs = [.ref T] ∧ H T = some (.lst xs) ∧ LL H xs ds ∧ IsTable ds ∧ ∀ H', Same H H' → Q (.str (noteS ds)) H'
theorem ok_shown {f : Addr} {fd : FuncData} (F : Fun K "shown" "shown" s_shown f fd) (m_str : mg "str" = none) (C_asked_table : Cal P w K mg base CX0 3 "asked_table" ["table"] (sp_asked_table K)) : FnOk P w K mg base CX0 4 f fd ["table"] (sp_shown K) := by
  refine F.ok sc_shown (fun vs H Q E h => ?_) (fun cdv A outer s H vs Q E hr h => ?_)
  · obtain ⟨T, xs, ds, rfl, _⟩ := h
    rfl
  · obtain ⟨T, xs, ds, rfl, hT, ll, it, q⟩ := h
    have el := ll.length
    have l3 := it.le
    refine ⟨_, (pss_cons (ps_expr (pe_c C_asked_table hr (by decide) pass0 (pa_cons (pv 0) pa_nil)))
      (pss_one (ps_ret (pe_joinK (K := K) pe_str (pe_lc (own := [("bar", 2)]) (g := gName 2) (tt := tYes) rfl sc_shown.nd (pi_listK (K := K) (pv 0)) (blkOk_by (N := N_shown) (sc := defScope s_shown) (by decide +kernel)) (fun _ _ _ _ _ => (pg_name (i := 2) sc_shown.nd rfl (.inl rfl))) (fun _ _ _ _ _ => pts_nil) (fun _ _ _ _ _ => (pe_joinK (K := K) pe_str (by exact (pe_lc (own := [("pieces", 1)]) (g := gName 1) (tt := tYes) rfl sc_shown.nd (pi_listK (K := K) (pv 2)) (blkOk_by (by kernel_rfl)) (fun _ _ _ _ _ => (pg_name (i := 1) sc_shown.nd rfl (.inl rfl))) (fun _ _ _ _ _ => pts_nil) (fun _ _ _ _ _ => (pe_callTy call_str_int (by rfl) m_str (by decide +kernel) (pa_cons (pv 1) pa_nil)))))))))))), ?_⟩
    refine ⟨_, rfl, T, xs, ds, rfl, SqL.of hT, ll, it, ?_⟩
    refine ⟨⟨_, rfl⟩, _, rfl, T, rfl, ⟨_, SqL.of hT⟩, fun D nD => ?_⟩
    refine lc_list (K := K) (a := T) (xs := xs) (fun i H' => Same H H' ∧ H' D = some (.lst (((ds.take i).map wordS).map V.str))) ⟨sNew nD, upd_same⟩ (fun _ _ _ h => SqL.of (h.1 _ _ hT)) ?_ ?_
    · rintro i x H1 hi ⟨s1, hD⟩
      obtain ⟨t, d, hd, rfl, ht⟩ := ll.at hi
      have ib := it.is d (List.mem_of_getElem? hd)
      have l5 := ib.le
      refine ⟨rfl, yesT ?_⟩
      refine ⟨⟨_, rfl⟩, _, rfl, t, rfl, ⟨_, SqL.of (s1 _ _ ht)⟩, fun D2 nD2 => ?_⟩
      refine lc_list (K := K) (a := t) (xs := d.map V.int) (fun j H' => Same H1 H' ∧ H' D2 = some (.lst (((d.take j).map fun x => (⟨#[48 + x.toNat]⟩ : Str)).map V.str))) ⟨sNew nD2, upd_same⟩ (fun _ _ _ h => SqL.of (h.1 _ _ (s1 _ _ ht))) ?_ ?_
      · rintro j y H2 hj ⟨s2, hD2⟩
        obtain ⟨u, hu, rfl⟩ := map_get hj
        have hu5 := ib.rg u (List.mem_of_getElem? hu)
        refine ⟨rfl, yesT ⟨_, rfl, u, rfl, ?_, _, hD2, ?_, sPut s2 nD2, ?_⟩⟩
        · rcases (by omega : u = 1 ∨ u = 2 ∨ u = 3 ∨ u = 4 ∨ u = 5) with rfl | rfl | rfl | rfl | rfl <;> decide
        · rw [List.length_map, List.length_map, List.length_take]
          exact small' (by omega)
        · rw [upd_same, take_more hu, List.map_append, List.map_append, str_digit hu5.1 hu5.2]
          all_goals rfl
      · rintro H2 ⟨s2, hD2⟩
        rw [List.length_map, List.take_length] at hD2
        have hDk := s2 _ _ hD
        refine ⟨_, D2, _, rfl, rfl, .inl (SqL.of hD2), ?_, ?_⟩
        · have e0 : (Str.ofString "").length = 0 := by decide +kernel
          rw [e0, Nat.mul_zero, Nat.add_zero, List.map_map]
          have h1 : (d.map ((fun x => Str.length x) ∘ fun x : Int => (⟨#[48 + x.toNat]⟩ : Str))).sum = d.length := by
            clear hD2 hi ht hd ib l5
            induction d with
            | nil => rfl
            | cons x d ih =>
              rw [List.map_cons, List.sum_cons, ih, List.length_cons, Nat.add_comm]
              rfl
          show (List.map ((fun x => Str.length x) ∘ fun x : Int => (⟨#[48 + x.toNat]⟩ : Str)) d).sum ≤ _
          rw [h1]
          omega
        · rw [join_word]
          refine ⟨_, hDk, ?_, sPut (s1.trans s2) nD, ?_⟩
          · rw [List.length_map, List.length_map, List.length_take]
            exact small' (by omega)
          · rw [upd_same, take_more hd, List.map_append, List.map_append]
            all_goals rfl
    · rintro H1 ⟨s1, hD⟩
      rw [el, List.take_length] at hD
      refine ⟨_, D, _, rfl, rfl, .inl (SqL.of hD), ?_, q H1 s1⟩
      have e1 : blank.length = 1 := by decide +kernel
      have h1 : ((ds.map wordS).map fun x => Str.length x).sum ≤ 5 * ds.length := by
        have := it.is
        clear hD el l3 ll q it
        induction ds with
        | nil => exact Nat.zero_le _
        | cons d ds ih =>
          have h1 := (this d List.mem_cons_self).le
          have h2 := ih fun e he => this e (List.mem_cons_of_mem _ he)
          rw [List.map_cons, List.map_cons, List.sum_cons, wordS_len, List.length_cons]
          omega
      show ((ds.map wordS).map fun x => Str.length x).sum + (ds.map wordS).length * blank.length ≤ 16777216
      rw [e1, List.length_map]
      omega
end
section
variable {P : Program} {w : World} {K : PySem.W.Frag} {mg : Str → Option Value} {base : Heap}
/-- shown(table), any table of lists of ints -/
theorem okx_shown {f : Addr} {fd : FuncData} {cs : Nat → Addr} (F : Fun K "shown" "shown" s_shown f fd) (m_str : mg "str" = none) (C_asked_table : Cal P w K mg base CX0 3 "asked_table" ["table"] (sp_asked_table K)) (X_asked_table : Cal P w K mg base (L2N.CX P w) 3 "asked_table" ["table"] (sp_xt K cs)) : FnOk P w K mg base (L2N.CX P w) 4 f fd ["table"] (sp_xt K cs) := by
  have bad : FnOk P w K mg base (L2N.CX P w) 4 f fd ["table"] (sp_badtable K cs) := by
    refine okN F sc_shown (fun vs H Q E h => ?_) (fun cdv A outer s H vs Q E hr h => ?_)
    · obtain ⟨T, xs, ds, i, rfl, _⟩ := h
      rfl
    · obtain ⟨T, xs, ds, i, rfl, hT, ll, tc, qe⟩ := h
      refine ⟨_, pss_cons (ps_expr (by exact (pe_cS X_asked_table hr (by decide) (L2N.takes_of rfl rfl rfl rfl) (pa_cons (pv 0) pa_nil)))) pss_never, ?_⟩
      exact ⟨_, rfl, T, xs, ds, some i, rfl, hT, ll, tc, fun z => (nomatch z), fun j e => by rw [← Option.some.inj e]; exact qe⟩
  refine (two (lift0 (ok_shown F m_str C_asked_table)) (bad.mono (by decide))).imp fun vs H Q E h => ?_
  obtain ⟨T, xs, ds, o, rfl, hT, ll, tc, qg, qb⟩ := h
  match o, tc with
  | none, tc =>
    have e : (none : Option Nat) = none := rfl
    have it : IsTable ds := by
      rcases tc with ⟨_, it⟩ | ⟨z, _⟩ | ⟨z, _⟩
      · exact it
      · cases z
      · cases z
    exact .inl ⟨T, xs, ds, rfl, hT, ll, it, fun H' s => qg e _ H' s⟩
  | some i, tc => exact .inr ⟨T, xs, ds, i, rfl, hT, ll, tc, qb i rfl⟩
end
abbrev s_law_cell_at : Stmt := topS 32
abbrev N_law_cell_at : List Str := ["script", "k"]
theorem sc_law_cell_at : FnScope N_law_cell_at ["script", "k"] (defScope s_law_cell_at) := ⟨rfl, rfl, rfl, by decide +kernel, rfl, by decide +kernel, by decide +kernel⟩
section
variable {P : Program} {w : World} {K : PySem.W.Frag} {mg : Str → Option Value} {base : Heap}
/-- _law_cell_at(script, k) -/
def cellAt (ns : List Int) (k : Nat) : Int := ns.getD k 0
def sp_law_cell_at (K : PySem.W.Frag) : Sp := fun vs H Q _ => ∃ (a : Addr) (ns : List Int) (k : Nat), vs = [.ref a, .int k] ∧ SqL K H a (ns.map V.int) ∧ Q (.int (cellAt ns k)) H
theorem ok_law_cell_at {f : Addr} {fd : FuncData} (F : Fun K "_law_cell_at" "_law_cell_at" s_law_cell_at f fd) (m_len : mg "len" = none) : FnOk P w K mg base CX0 1 f fd ["script", "k"] (sp_law_cell_at K) := by
  refine F.ok sc_law_cell_at (fun vs H Q E h => ?_) (fun cdv A outer s H vs Q E hr h => ?_)
  · obtain ⟨a, ns, k, rfl, _⟩ := h
    rfl
  · obtain ⟨a, ns, k, rfl, hS, q⟩ := h
    have hl : (ns.map V.int).length = ns.length := List.length_map _
    refine ⟨_, (pss_cons (ps_if (pt_cmpR op_lt (pv 1) (pe_callB (lenK (K := K)) (by rfl) m_len PySem.boot_len (pa_cons (pv 0) pa_nil)) (nomark _))
        (pss_one (ps_ret (pe_ix (ixK (K := K)) (pv 0) (pv 1) (fun _ _ => rfl))))
        pss_nil)
      (pss_one (ps_ret pe_int))), ?_⟩
    refine ⟨_, rfl, _, rfl, a, _, rfl, .inl hS, _, _, rfl, rfl, _, rfl, ite2 (fun c => ?_) (fun c => ?_)⟩
    · have c' := of_decide_eq_true c
      rw [hl] at c'
      have hk : k < ns.length := by omega
      have e : cellAt ns k = ns[k] := by
        unfold cellAt
        rw [List.getD_eq_getElem?_getD, List.getElem?_eq_getElem hk]; rfl
      rw [e] at q
      exact ⟨_, rfl, _, rfl, a, _, _, _, rfl, rfl, hS, at_map (List.getElem?_eq_getElem hk), q⟩
    · have c' := of_decide_eq_false (Bool.eq_false_iff.mpr c)
      rw [hl] at c'
      have e : cellAt ns k = 0 := by
        unfold cellAt
        rw [List.getD_eq_getElem?_getD, List.getElem?_eq_none (by omega)]; rfl
      rw [e] at q
      exact q
end
abbrev s_law_word_of : Stmt := topS 33
abbrev N_law_word_of : List Str := ["e", "kinds"]
theorem sc_law_word_of : FnScope N_law_word_of ["e"] (defScope s_law_word_of) := ⟨rfl, rfl, rfl, by decide +kernel, rfl, by decide +kernel, by decide +kernel⟩
section
variable {P : Program} {w : World} {K : PySem.W.Frag} {mg : Str → Option Value} {base : Heap}
theorem ansL_at (i : Nat) (h : i < 4) : ((ansL i).map V.bl)[i]? = some (V.bl true) ∧ ((ansL i).map V.bl).all flatV = true ∧ ∀ (m : Nat) (z : V), m < i → ((ansL i).map V.bl)[m]? = some z → eqV z (.bl true) = false := by
  have go : ∀ b : Bool, b = false → eqV (V.bl b) (.bl true) = false := fun b e => by subst e; rfl
  refine ⟨?_, by rfl, ?_⟩
  · match i, h with
    | 0, _ => rfl
    | 1, _ => rfl
    | 2, _ => rfl
    | 3, _ => rfl
  · intro m z hm e
    match i, h, m, hm with
    | 1, _, 0, _ => cases e; rfl
    | 2, _, 0, _ => cases e; rfl
    | 2, _, 1, _ => cases e; rfl
    | 3, _, 0, _ => cases e; rfl
    | 3, _, 1, _ => cases e; rfl
    | 3, _, 2, _ => cases e; rfl
theorem ok_law_word_of {f : Addr} {fd : FuncData} (F : Fun K "_law_word_of" "_law_word_of" s_law_word_of f fd) (m_isinstance : mg "isinstance" = none) (m_ValueError : mg "ValueError" = none) {cs : Nat → Addr} {cB : Addr} (T_kinds : Kinds K mg cs cB) :
    FnE P w K mg base 1 f fd ["e"] (sp_law_word_of K cs) := by
  refine okE F sc_law_word_of (fun p vs H Q E h => ?_) (fun cdv A outer s H vs Q E p hot hr h => ?_)
  · obtain ⟨D, i, wd, rfl, _⟩ := h
    rfl
  · obtain ⟨D, i, wd, rfl, hc, hd, kd, i4, hw, q⟩ := h
    have hf : ∃ vs, p.2.data = .fields vs := by
      obtain ⟨_, v, e, _⟩ := hot
      exact ⟨v, e⟩
    refine ⟨_, (pss_cons (ps_set (i := 1) sc_law_word_of.nd rfl (.inl rfl) (pe_lst (pa_cons (pe_callB (call_isP (K := K) kd.ex (.head _) hc hd hf) (by rfl) m_isinstance (by decide +kernel) (pa_cons (pv 0) (pa_cons (pe_glob (v := .ref (cs 0)) (by rfl) T_kinds.o0.g rfl) pa_nil))) (pa_cons (pe_callB (call_isP (K := K) kd.ex (.head _) hc hd hf) (by rfl) m_isinstance (by decide +kernel) (pa_cons (pv 0) (pa_cons (pe_glob (v := .ref (cs 1)) (by rfl) T_kinds.o1.g rfl) pa_nil))) (pa_cons (pe_callB (call_isP (K := K) kd.ex (.head _) hc hd hf) (by rfl) m_isinstance (by decide +kernel) (pa_cons (pv 0) (pa_cons (pe_glob (v := .ref (cs 2)) (by rfl) T_kinds.o2.g rfl) pa_nil))) (pa_cons (pe_callB (call_isP (K := K) kd.ex (.head _) hc hd hf) (by rfl) m_isinstance (by decide +kernel) (pa_cons (pv 0) (pa_cons (pe_glob (v := .ref (cs 3)) (by rfl) T_kinds.o3.g rfl) pa_nil))) pa_nil))))))
      (pss_cons (ps_if (PW.pt (pw_or (pt_cmpR op_ne (pe_bmK (K := K) PySem.F.plainAttrs_list PySem.F.slot_list_count PySem.F.type_list_count mt_bcount (pv 1) (pa_cons pe_bl pa_nil)) pe_int (nomark _)) (pw_or1 (pt_not (pt_val (pe_callB (call_isP (K := K) kd.ex (.head _) hc hd hf) (by rfl) m_isinstance (by decide +kernel) (pa_cons (pv 0) (pa_cons (pe_bltn (v := .ty "ValueError") (by rfl) m_ValueError (by decide +kernel) rfl) pa_nil))))))))
        (pss_one (ps_ret pe_str))
        pss_nil)
      (pss_one (ps_ret (pe_ix (ixK (K := K)) (pe_lst (pa_cons pe_str (pa_cons pe_str (pa_cons pe_str (pa_cons pe_str pa_nil))))) (pe_bmK (K := K) PySem.F.plainAttrs_list PySem.F.slot_list_index PySem.F.type_list_index indexK (pv 1) (pa_cons pe_bl pa_nil)) (fun _ _ => rfl)))))), ?_⟩
    refine ⟨_, rfl, _, _, _, rfl, (fun _ r => r), kd.k 0 (by decide), ?_⟩
    refine ⟨_, rfl, _, _, _, rfl, (fun _ r => r), kd.k 1 (by decide), ?_⟩
    refine ⟨_, rfl, _, _, _, rfl, (fun _ r => r), kd.k 2 (by decide), ?_⟩
    refine ⟨_, rfl, _, _, _, rfl, (fun _ r => r), kd.k 3 (by decide), ?_⟩
    refine ⟨by show 4 ≤ sizeLine; decide, fun l nl => ?_⟩
    have s1 : Same H (upd H l (.lst [V.bl (decide (i = 0)), V.bl (decide (i = 1)), V.bl (decide (i = 2)), V.bl (decide (i = 3))])) := sNew nl
    have hl : upd H l (.lst [V.bl (decide (i = 0)), V.bl (decide (i = 1)), V.bl (decide (i = 2)), V.bl (decide (i = 3))]) l = some (.lst ((ansL i).map V.bl)) := upd_same
    refine ⟨_, rfl, ?_⟩
    generalize upd H l (.lst [V.bl (decide (i = 0)), V.bl (decide (i = 1)), V.bl (decide (i = 2)), V.bl (decide (i = 3))]) = H1 at s1 hl ⊢
    have e1 : ((ansL i).countP (· == true) : Nat) = 1 := by
      match i, i4 with
      | 0, _ => rfl
      | 1, _ => rfl
      | 2, _ => rfl
      | 3, _ => rfl
    refine ⟨.inl ⟨rfl, _, SqL.of hl⟩, l, ansL i, true, rfl, rfl, SqL.of hl, ?_⟩
    rw [e1]
    refine ⟨rfl, _, rfl, ?_⟩
    rw [show (((1 : Nat) : Int)) = 1 from rfl, decide_eq_true rfl]
    refine iteF ?_
    refine ⟨_, rfl, _, _, _, rfl, (fun _ r => r), kd.v, true, rfl, iteF ?_⟩
    refine ⟨by show 4 ≤ sizeLine; decide, fun g ng => ?_⟩
    have s2 : Same H1 (upd H1 g (.lst (words.map V.str))) := sNew ng
    have hg : upd H1 g (.lst (words.map V.str)) g = some (.lst (words.map V.str)) := upd_same
    obtain ⟨w1, w2, w3⟩ := ansL_at i i4
    refine ⟨_, rfl, .inl ⟨rfl, _, SqL.of (s2 _ _ hl)⟩, ?_⟩
    refine ⟨l, _, .bl true, i, .bl true, rfl, rfl, SqL.of (s2 _ _ hl), rfl, w2, w1, rfl, w3, ?_⟩
    refine ⟨g, _, _, _, rfl, rfl, SqL.of hg, atI_nat (by rw [List.getElem?_map, hw]; rfl), ?_⟩
    exact q _ (s1.trans s2)
end
abbrev s_law_bar_by : Stmt := topS 34
abbrev N_law_bar_by : List Str := ["cell", "most", "many", "found", "k"]
theorem sc_law_bar_by : FnScope N_law_bar_by ["cell", "most"] (defScope s_law_bar_by) := ⟨rfl, rfl, rfl, by decide +kernel, rfl, by decide +kernel, by decide +kernel⟩
section
variable {P : Program} {w : World} {K : PySem.W.Frag} {mg : Str → Option Value} {base : Heap}
/-- _law_bar_by(cell, most): a bar -/
def sp_law_bar_by (K : PySem.W.Frag) : Sp := fun vs H Q _ => ∃ (c m : Int), vs = [.int c, .int m] ∧ 1 ≤ m ∧ m ≤ 5 ∧
  ∀ H' p ns, Same H H' → H p = none → H' p = some (.lst (ns.map V.int)) → IsBar m ns → Q (.ref p) H'
theorem ok_law_bar_by {f : Addr} {fd : FuncData} (F : Fun K "_law_bar_by" "_law_bar_by" s_law_bar_by f fd) (m_range : mg "range" = none) (m_sorted : mg "sorted" = none) : FnOk P w K mg base CX0 1 f fd ["cell", "most"] (sp_law_bar_by K) := by
  refine F.ok sc_law_bar_by (fun vs H Q E h => ?_) (fun cdv A outer s H vs Q E hr h => ?_)
  · obtain ⟨c, m, rfl, _⟩ := h
    rfl
  · obtain ⟨c, m, rfl, h1, h5, q⟩ := h
    have hm0 := Int.emod_nonneg c (show m ≠ 0 by omega)
    have hm1 := Int.emod_lt_of_pos c (show 0 < m by omega)
    refine ⟨_, (pss_cons (ps_set (i := 2) sc_law_bar_by.nd rfl (.inl rfl) (pe_op op_add pe_int (pe_op op_mod (pv 0) (pv 1))))
      (pss_cons (ps_set (i := 0) sc_law_bar_by.nd rfl (.inl rfl) (pe_op op_fdiv (pv 0) (pv 1)))
      (pss_cons (ps_set (i := 3) sc_law_bar_by.nd rfl (.inl rfl) (pe_lst pa_nil))
      (pss_cons (ps_for PassesOwn.never rfl (pi_range1 (by rfl) m_range (pa_cons (pv 2) pa_nil)) (pg_name (i := 4) sc_law_bar_by.nd rfl (.inl rfl))
        (pss_cons (ps_expr (pe_bmK (K := K) PySem.F.plainAttrs_list PySem.F.slot_list_append PySem.F.type_list_append mt_append (pv 3) (pa_cons (pe_op op_add pe_int (pe_op op_mod (pv 0) (pv 1))) pa_nil)))
        (pss_one (ps_set (i := 0) sc_law_bar_by.nd rfl (.inl rfl) (pe_op op_fdiv (pv 0) (pv 1))))))
      (pss_one (ps_ret (pe_callBK (sortedRevK (K := K)) (by rfl) m_sorted (by decide +kernel) (pa_cons (pv 3) pa_nil) (pk_cons pe_bl pk_nil)))))))), ?_⟩
    refine ⟨_, rfl, _, rfl, _, _, rfl, rfl, (by show 0 < m; omega), _, _, rfl, rfl, ?_⟩
    refine ⟨_, rfl, _, rfl, _, _, rfl, rfl, ⟨by omega, by omega⟩, Nat.zero_le _, fun o no => ?_⟩
    refine ⟨_, rfl, _, rfl, by omega, by omega,
      for_range (lo := 0) (fun i σ H' => ∃ (c' : Int) (y : Option V) (ds : List Int), σ = [some (.int c'), some (.int m), some (.int (1 + c % m)), some (.ref o), y] ∧ H' = upd H o (.lst (ds.map V.int)) ∧ ds.length = i ∧ ∀ x ∈ ds, 1 ≤ x ∧ x ≤ m)
      ⟨_, none, [], rfl, rfl, rfl, fun x hx => nomatch hx⟩ ?_ ?_⟩
    · rintro i σ H1 hi ⟨c', y, ds, rfl, rfl, el, hx⟩
      have hc0 := Int.emod_nonneg c' (show m ≠ 0 by omega)
      have hc1 := Int.emod_lt_of_pos c' (show 0 < m by omega)
      refine ⟨_, rfl, .inl ⟨rfl, _, SqL.of upd_same⟩, ?_⟩
      refine ⟨_, rfl, _, rfl, _, _, rfl, rfl, (by show 0 < m; omega), _, _, rfl, rfl, o, _, _, rfl, rfl, upd_same, by rw [List.length_map]; exact small' (by omega), ?_⟩
      refine ⟨_, rfl, _, rfl, _, _, rfl, rfl, ⟨by omega, by omega⟩, ?_⟩
      refine ⟨_, _, ds ++ [1 + c' % m], rfl, ?_, by rw [List.length_append, el]; rfl, fun x h => ?_⟩
      · rw [upd_upd, List.map_append]; rfl
      · rcases List.mem_append.mp h with h | h
        · exact hx x h
        · have := List.mem_singleton.mp h
          omega
    · rintro σ H1 ⟨c', y, ds, rfl, rfl, el, hx⟩
      refine ⟨_, rfl, o, ds, rfl, rfl, SqL.of upd_same, fun ns p hp ho np => ?_⟩
      have hlen := hp.length_eq
      refine q _ p ns (sThen (sNew no) np) ?_ upd_same ⟨by omega, by omega, ho, fun x h => hx x (hp.mem_iff.mp h)⟩
      cases e : H p with
      | none => rfl
      | some u =>
        have := sNew (o := .lst (ds.map V.int)) no p u e
        rw [np] at this
        cases this
end
abbrev s_law_of_bar : Stmt := topS 35
abbrev N_law_of_bar : List Str := ["which", "bar"]
theorem sc_law_of_bar : FnScope N_law_of_bar ["which", "bar"] (defScope s_law_of_bar) := ⟨rfl, rfl, rfl, by decide +kernel, rfl, by decide +kernel, by decide +kernel⟩
section
variable {P : Program} {w : World} {K : PySem.W.Frag} {mg : Str → Option Value} {base : Heap}
/-- _law_of_bar(which, bar), any list of ints -/
def sp_law_of_bar (K : PySem.W.Frag) (cs : Nat → Addr) : Sp := fun vs H Q E => ∃ (w : Int) (a : Addr) (ns : List Int), vs = [.int w, .ref a] ∧ SqL K H a (ns.map V.int) ∧
  (∀ H', Same H H' → (0 ≤ w → w ≤ 4 → isBarB ns = true) → w ≠ 1 → Q .non H') ∧ (∀ H', Same H H' → isBarB ns = false → 0 ≤ w → w ≤ 4 → E (.ref (cs 0)) none H') ∧ (∀ H', Same H H' → isBarB ns = true → w = 1 → E (.ref (cs 1)) none H')
theorem ok_law_of_bar {f : Addr} {fd : FuncData} (F : Fun K "_law_of_bar" "_law_of_bar" s_law_of_bar f fd) {cs : Nat → Addr} (C_bitten : Cal P w K mg base (L2N.CX P w) 3 "bitten" ["bar", "row", "column"] (sp_bitten0 K cs))
    (X_bites : Cal P w K mg base (L2N.CX P w) 3 "bites" ["bar"] (sp_xb K cs)) (X_turned : Cal P w K mg base (L2N.CX P w) 3 "turned" ["bar"] (sp_xb K cs)) (X_worth : Cal P w K mg base (L2N.CX P w) 28 "worth" ["bar"] (sp_xb K cs)) (X_hook_worth : Cal P w K mg base (L2N.CX P w) 3 "hook_worth" ["bar"] (sp_xb K cs)) :
    FnOk P w K mg base (L2N.CX P w) 29 f fd ["which", "bar"] (sp_law_of_bar K cs) := by
  refine okN F sc_law_of_bar (fun vs H Q E h => ?_) (fun cdv A outer s H vs Q E hr h => ?_)
  · obtain ⟨x, a, ns, rfl, _⟩ := h
    rfl
  · obtain ⟨x, a, ns, rfl, hS, q, qb, q1⟩ := h
    refine ⟨_, (C8.pss_cut (ps_if (pt_cmpR op_eq (pv 0) pe_int (nomark _))
        (pss_one (ps_expr (by exact (pe_cS X_bites hr (by decide) (L2N.takes_of rfl rfl rfl rfl) (pa_cons (pv 1) pa_nil)))))
        pss_nil)
      (C8.pss_cut (ps_if (pt_cmpR op_eq (pv 0) pe_int (nomark _))
        (pss_one (ps_expr (by exact (pe_cS C_bitten hr (by decide) (L2N.takes_of rfl rfl rfl rfl) (pa_cons (pv 1) (pa_cons pe_int (pa_cons pe_int pa_nil)))))))
        pss_nil)
      (C8.pss_cut (ps_if (pt_cmpR op_eq (pv 0) pe_int (nomark _))
        (pss_one (ps_expr (by exact (pe_cS X_turned hr (by decide) (L2N.takes_of rfl rfl rfl rfl) (pa_cons (pv 1) pa_nil)))))
        pss_nil)
      (C8.pss_cut (ps_if (pt_cmpR op_eq (pv 0) pe_int (nomark _))
        (pss_one (ps_expr (by exact (pe_cS X_worth hr (by decide) (L2N.takes_of rfl rfl rfl rfl) (pa_cons (pv 1) pa_nil)))))
        pss_nil)
      (pss_one (ps_if (pt_cmpR op_eq (pv 0) pe_int (nomark _))
        (pss_one (ps_expr (by exact (pe_cS X_hook_worth hr (by decide) (L2N.takes_of rfl rfl rfl rfl) (pa_cons (pv 1) pa_nil)))))
        pss_nil)))))), ?_⟩
    refine ⟨fun σ' H' => σ' = [some (.int x), some (.ref a)] ∧ Same H H' ∧ (0 ≤ x → x ≤ 0 → isBarB ns = true ∧ x ≠ 1), ?_, ?_⟩
    · refine ⟨_, rfl, rfl, _, rfl, d2_ (fun h => ?_) (fun h => ⟨rfl, Same.refl H, fun h0 h1 => absurd (congrArg V.int (by omega : x = 0)) h⟩)⟩
      have e : x = 0 := int_eq h
      exact ⟨_, rfl, a, ns, rfl, hS, fun hb v H2 s2 => ⟨rfl, (Same.refl H).trans s2, fun _ _ => ⟨hb, by omega⟩⟩, fun hb => qb _ (Same.refl H) hb (by omega) (by omega)⟩
    rintro σ' H10 ⟨rfl, s1, al⟩
    refine ⟨fun σ' H' => σ' = [some (.int x), some (.ref a)] ∧ Same H H' ∧ (0 ≤ x → x ≤ 1 → isBarB ns = true ∧ x ≠ 1), ?_, ?_⟩
    · refine ⟨_, rfl, rfl, _, rfl, d2_ (fun h => ?_) (fun h => ⟨rfl, s1, fun h0 h1 => al h0 (by have h2 : ¬ x = 1 := fun z => h (congrArg V.int z); omega)⟩)⟩
      have e : x = 1 := int_eq h
      exact ⟨_, rfl, a, ns, rfl, (s1.seq hS), fun hb H2 s2 => q1 _ (s1.trans s2) hb e, fun hb => qb _ (s1) hb (by omega) (by omega)⟩
    rintro σ' H11 ⟨rfl, s1, al⟩
    refine ⟨fun σ' H' => σ' = [some (.int x), some (.ref a)] ∧ Same H H' ∧ (0 ≤ x → x ≤ 2 → isBarB ns = true ∧ x ≠ 1), ?_, ?_⟩
    · refine ⟨_, rfl, rfl, _, rfl, d2_ (fun h => ?_) (fun h => ⟨rfl, s1, fun h0 h1 => al h0 (by have h2 : ¬ x = 2 := fun z => h (congrArg V.int z); omega)⟩)⟩
      have e : x = 2 := int_eq h
      exact ⟨_, rfl, a, ns, rfl, (s1.seq hS), fun hb v H2 s2 => ⟨rfl, (s1).trans s2, fun _ _ => ⟨hb, by omega⟩⟩, fun hb => qb _ (s1) hb (by omega) (by omega)⟩
    rintro σ' H12 ⟨rfl, s1, al⟩
    refine ⟨fun σ' H' => σ' = [some (.int x), some (.ref a)] ∧ Same H H' ∧ (0 ≤ x → x ≤ 3 → isBarB ns = true ∧ x ≠ 1), ?_, ?_⟩
    · refine ⟨_, rfl, rfl, _, rfl, d2_ (fun h => ?_) (fun h => ⟨rfl, s1, fun h0 h1 => al h0 (by have h2 : ¬ x = 3 := fun z => h (congrArg V.int z); omega)⟩)⟩
      have e : x = 3 := int_eq h
      exact ⟨_, rfl, a, ns, rfl, (s1.seq hS), fun hb v H2 s2 => ⟨rfl, (s1).trans s2, fun _ _ => ⟨hb, by omega⟩⟩, fun hb => qb _ (s1) hb (by omega) (by omega)⟩
    rintro σ' H13 ⟨rfl, s1, al⟩
    refine ⟨_, rfl, rfl, _, rfl, d2_ (fun h => ?_) (fun h => q _ s1 (fun h0 h1 => (al h0 (by have h2 : ¬ x = 4 := fun z => h (congrArg V.int z); omega)).1) (fun z => (al (by omega) (by omega)).2 z))⟩
    have e : x = 4 := int_eq h
    exact ⟨_, rfl, a, ns, rfl, (s1.seq hS), fun hb v H2 s2 => q _ (s1.trans s2) (fun _ _ => hb) (by omega), fun hb => qb _ (s1) hb (by omega) (by omega)⟩
end
abbrev s_law_of_table : Stmt := topS 36
abbrev N_law_of_table : List Str := ["which", "table"]
theorem sc_law_of_table : FnScope N_law_of_table ["which", "table"] (defScope s_law_of_table) := ⟨rfl, rfl, rfl, by decide +kernel, rfl, by decide +kernel, by decide +kernel⟩
section
variable {P : Program} {w : World} {K : PySem.W.Frag} {mg : Str → Option Value} {base : Heap}
/-- _law_of_table(which, table), any table of lists of ints -/
def sp_law_of_table (K : PySem.W.Frag) (cs : Nat → Addr) : Sp := fun vs H Q E => ∃ (w : Int) (T : Addr) (xs : List V) (ds : List (List Int)) (o : Option Nat), vs = [.int w, .ref T] ∧ H T = some (.lst xs) ∧ LL H xs ds ∧ TCase ds o ∧
  (∀ H', Same H H' → (5 ≤ w → w ≤ 9 → o = none) → w ≠ 8 → Q .non H') ∧ (∀ H' i, Same H H' → o = some i → 5 ≤ w → w ≤ 9 → E (.ref (cs i)) none H') ∧ (∀ H', Same H H' → o = none → w = 8 → E (.ref (cs 1)) none H')
theorem ok_law_of_table {f : Addr} {fd : FuncData} (F : Fun K "_law_of_table" "_law_of_table" s_law_of_table f fd) {cs : Nat → Addr} (X_together : Cal P w K mg base (L2N.CX P w) 29 "together" ["table"] (sp_xt K cs)) (X_wins : Cal P w K mg base (L2N.CX P w) 30 "wins" ["table"] (sp_xt K cs))
    (X_winning : Cal P w K mg base (L2N.CX P w) 29 "winning" ["table"] (sp_xt K cs)) (X_moved : Cal P w K mg base (L2N.CX P w) 4 "moved" ["table", "number", "row", "column"] (sp_x_moved K cs)) (X_shown : Cal P w K mg base (L2N.CX P w) 4 "shown" ["table"] (sp_xt K cs)) :
    FnOk P w K mg base (L2N.CX P w) 31 f fd ["which", "table"] (sp_law_of_table K cs) := by
  refine okN F sc_law_of_table (fun vs H Q E h => ?_) (fun cdv A outer s H vs Q E hr h => ?_)
  · obtain ⟨x, T, xs, ds, o, rfl, _⟩ := h
    rfl
  · obtain ⟨x, T, xs, ds, o, rfl, hT, ll, tc, q, qb, q1⟩ := h
    refine ⟨_, (C8.pss_cut (ps_if (pt_cmpR op_eq (pv 0) pe_int (nomark _))
        (pss_one (ps_expr (by exact (pe_cS X_together hr (by decide) (L2N.takes_of rfl rfl rfl rfl) (pa_cons (pv 1) pa_nil)))))
        pss_nil)
      (C8.pss_cut (ps_if (pt_cmpR op_eq (pv 0) pe_int (nomark _))
        (pss_one (ps_expr (by exact (pe_cS X_wins hr (by decide) (L2N.takes_of rfl rfl rfl rfl) (pa_cons (pv 1) pa_nil)))))
        pss_nil)
      (C8.pss_cut (ps_if (pt_cmpR op_eq (pv 0) pe_int (nomark _))
        (pss_one (ps_expr (by exact (pe_cS X_winning hr (by decide) (L2N.takes_of rfl rfl rfl rfl) (pa_cons (pv 1) pa_nil)))))
        pss_nil)
      (C8.pss_cut (ps_if (pt_cmpR op_eq (pv 0) pe_int (nomark _))
        (pss_one (ps_expr (by exact (pe_cS X_moved hr (by decide) (L2N.takes_of rfl rfl rfl rfl) (pa_cons (pv 1) (pa_cons pe_int (pa_cons pe_int (pa_cons pe_int pa_nil))))))))
        pss_nil)
      (pss_one (ps_if (pt_cmpR op_eq (pv 0) pe_int (nomark _))
        (pss_one (ps_expr (by exact (pe_cS X_shown hr (by decide) (L2N.takes_of rfl rfl rfl rfl) (pa_cons (pv 1) pa_nil)))))
        pss_nil)))))), ?_⟩
    refine ⟨fun σ' H' => σ' = [some (.int x), some (.ref T)] ∧ Same H H' ∧ (5 ≤ x → x ≤ 5 → o = none ∧ x ≠ 8), ?_, ?_⟩
    · refine ⟨_, rfl, rfl, _, rfl, d2_ (fun h => ?_) (fun h => ⟨rfl, Same.refl H, fun h0 h1 => absurd (congrArg V.int (by omega : x = 5)) h⟩)⟩
      have e : x = 5 := int_eq h
      exact ⟨_, rfl, T, xs, ds, o, rfl, hT, ll, tc, fun hb v H2 s2 => ⟨rfl, (Same.refl H).trans s2, fun _ _ => ⟨hb, by omega⟩⟩, fun i hi H2 s2 => qb _ i ((Same.refl H).trans s2) hi (by omega) (by omega)⟩
    rintro σ' H15 ⟨rfl, s1, al⟩
    refine ⟨fun σ' H' => σ' = [some (.int x), some (.ref T)] ∧ Same H H' ∧ (5 ≤ x → x ≤ 6 → o = none ∧ x ≠ 8), ?_, ?_⟩
    · refine ⟨_, rfl, rfl, _, rfl, d2_ (fun h => ?_) (fun h => ⟨rfl, s1, fun h0 h1 => al h0 (by have h2 : ¬ x = 6 := fun z => h (congrArg V.int z); omega)⟩)⟩
      have e : x = 6 := int_eq h
      exact ⟨_, rfl, T, xs, ds, o, rfl, s1 _ _ hT, ll.same s1, tc, fun hb v H2 s2 => ⟨rfl, (s1).trans s2, fun _ _ => ⟨hb, by omega⟩⟩, fun i hi H2 s2 => qb _ i ((s1).trans s2) hi (by omega) (by omega)⟩
    rintro σ' H16 ⟨rfl, s1, al⟩
    refine ⟨fun σ' H' => σ' = [some (.int x), some (.ref T)] ∧ Same H H' ∧ (5 ≤ x → x ≤ 7 → o = none ∧ x ≠ 8), ?_, ?_⟩
    · refine ⟨_, rfl, rfl, _, rfl, d2_ (fun h => ?_) (fun h => ⟨rfl, s1, fun h0 h1 => al h0 (by have h2 : ¬ x = 7 := fun z => h (congrArg V.int z); omega)⟩)⟩
      have e : x = 7 := int_eq h
      exact ⟨_, rfl, T, xs, ds, o, rfl, s1 _ _ hT, ll.same s1, tc, fun hb v H2 s2 => ⟨rfl, (s1).trans s2, fun _ _ => ⟨hb, by omega⟩⟩, fun i hi H2 s2 => qb _ i ((s1).trans s2) hi (by omega) (by omega)⟩
    rintro σ' H17 ⟨rfl, s1, al⟩
    refine ⟨fun σ' H' => σ' = [some (.int x), some (.ref T)] ∧ Same H H' ∧ (5 ≤ x → x ≤ 8 → o = none ∧ x ≠ 8), ?_, ?_⟩
    · refine ⟨_, rfl, rfl, _, rfl, d2_ (fun h => ?_) (fun h => ⟨rfl, s1, fun h0 h1 => al h0 (by have h2 : ¬ x = 8 := fun z => h (congrArg V.int z); omega)⟩)⟩
      have e : x = 8 := int_eq h
      exact ⟨_, rfl, T, xs, ds, o, rfl, s1 _ _ hT, ll.same s1, tc, fun hb H2 s2 => q1 _ (s1.trans s2) hb e, fun i hi H2 s2 => qb _ i ((s1).trans s2) hi (by omega) (by omega)⟩
    rintro σ' H18 ⟨rfl, s1, al⟩
    refine ⟨_, rfl, rfl, _, rfl, d2_ (fun h => ?_) (fun h => q _ s1 (fun h0 h1 => (al h0 (by have h2 : ¬ x = 9 := fun z => h (congrArg V.int z); omega)).1) (fun z => (al (by omega) (by omega)).2 z))⟩
    have e : x = 9 := int_eq h
    exact ⟨_, rfl, T, xs, ds, o, rfl, s1 _ _ hT, ll.same s1, tc, fun hb v H2 s2 => q _ (s1.trans s2) (fun _ _ => hb) (by omega), fun i hi H2 s2 => qb _ i ((s1).trans s2) hi (by omega) (by omega)⟩
end
abbrev s_law_tried : Stmt := topS 37
abbrev N_law_tried : List Str := ["which", "bar", "table", "e"]
theorem sc_law_tried : FnScope N_law_tried ["which", "bar", "table"] (defScope s_law_tried) := ⟨rfl, rfl, rfl, by decide +kernel, rfl, by decide +kernel, by decide +kernel⟩
section
variable {P : Program} {w : World} {K : PySem.W.Frag} {mg : Str → Option Value} {base : Heap}
/-- what the which-th function ends with -/
def wordT (x : Int) (b : Bool) (o : Option Nat) : Str := if x ≤ 4 then (if b = false then "bar" else if x = 1 then "bite" else "done") else match o with
  | some 0 => "bar"
  | some _ => "table"
  | none => if x = 8 then "bite" else "done"
theorem kinds_m {cs : Nat → Addr} {cB : Addr} (T : Kinds K mg cs cB) : ∀ i, i < 4 → PySem.W.exmOne K (.ref (cs i)) (.ref cB) = some true
  | 0, _ => T.o0.m
  | 1, _ => T.o1.m
  | 2, _ => T.o2.m
  | 3, _ => T.o3.m
  | _ + 4, h => absurd h (by omega)
/-- _law_tried(which, bar, table) -/
def sp_law_tried (K : PySem.W.Frag) : Sp := fun vs H Q _ => ∃ (x : Int) (a T : Addr) (ns : List Int) (xs : List V) (ds : List (List Int)) (o : Option Nat), vs = [.int x, .ref a, .ref T] ∧ SqL K H a (ns.map V.int) ∧ H T = some (.lst xs) ∧ LL H xs ds ∧ TCase ds o ∧ 0 ≤ x ∧ x ≤ 9 ∧
  ∀ H', Same H H' → Q (.str (wordT x (isBarB ns) o)) H'
theorem ok_law_tried {f : Addr} {fd : FuncData} (F : Fun K "_law_tried" "_law_tried" s_law_tried f fd) {cs : Nat → Addr} {cB : Addr} (T_kinds : Kinds K mg cs cB) (C_law_of_bar : Cal P w K mg base (L2N.CX P w) 29 "_law_of_bar" ["which", "bar"] (sp_law_of_bar K cs))
    (C_law_of_table : Cal P w K mg base (L2N.CX P w) 31 "_law_of_table" ["which", "table"] (sp_law_of_table K cs)) (C_law_word_of : CalE P w K mg base 1 "_law_word_of" ["e"] (sp_law_word_of K cs)) : FnOk P w K mg base CX0 32 f fd ["which", "bar", "table"] (sp_law_tried K) := by
  refine F.ok sc_law_tried (fun vs H Q E h => ?_) (fun cdv A outer s H vs Q E hr h => ?_)
  · obtain ⟨x, a, T, ns, xs, ds, o, rfl, _⟩ := h
    rfl
  · obtain ⟨x, a, T, ns, xs, ds, o, rfl, hS, hT, ll, tc, x0, x9, q⟩ := h
    refine ⟨_, (pss_cons (L2N.ps_try_as (i := 3) (tb := fun W => tSeq (tDrop (tCallS (sp_law_of_bar K cs) (WE W) (tCons (tVar 0) (tCons (tVar 1) tNil)))) (tDrop (tCallS (sp_law_of_table K cs) (WE W) (tCons (tVar 0) (tCons (tVar 2) tNil))))) (ts := fun a cls d => tRet (tWord K cs a cls d 3)) (Wout := fun _ _ _ _ => False) rfl rfl sc_law_tried.nd rfl rfl ⟨rfl, by decide, Or.inl T_kinds.gB⟩ nobodyN (fun W pn xe tk _ => pss_cons (ps_expr (by exact (pe_cS C_law_of_bar hr (by decide) tk (pa_cons (pv 0) (pa_cons (pv 1) pa_nil))))) (pss_one (ps_expr (by exact (pe_cS C_law_of_table hr (by decide) tk (pa_cons (pv 0) (pa_cons (pv 2) pa_nil))))))) (fun a oe cls d pn hz hf => pss_one (ps_ret (by exact (pe_word C_law_word_of hr (by decide) hz hf (pa_cons (pv 3) pa_nil))))))
      (pss_one (ps_ret pe_str))), ?_⟩
    refine ⟨_, rfl, _, rfl, x, a, ns, rfl, hS, fun H1 s1 hb h1 => ?_, fun H1 s1 hb h0 h4 => ?_, fun H1 s1 hb h1 => ?_⟩
    · refine ⟨_, rfl, _, rfl, x, T, xs, ds, o, rfl, s1 _ _ hT, ll.same s1, tc, fun H2 s2 ho h8 => ?_, fun H2 i s2 ho h5 h9 => ?_, fun H2 s2 ho h8 => ?_⟩
      · have e : wordT x (isBarB ns) o = "done" := by
          unfold wordT
          by_cases h : x ≤ 4
          · rw [if_pos h, if_neg (by rw [hb x0 h]; decide), if_neg h1]
          · rw [if_neg h, ho (by omega) x9]
            exact if_neg h8
        have q2 := q H2 (s1.trans s2)
        rw [e] at q2
        exact q2
      · have hi : i = 0 ∨ i = 2 := by
          rcases tc with ⟨z, _⟩ | ⟨z, _⟩ | ⟨z, _⟩
          · rw [z] at ho; cases ho
          · rw [z] at ho; exact .inl (Option.some.inj ho).symm
          · rw [z] at ho; exact .inr (Option.some.inj ho).symm
        refine ⟨true, kinds_m T_kinds i (by omega), fun _ e ne => ?_, fun z => Bool.noConfusion z⟩
        refine ⟨cs i, i, wordT x (isBarB ns) o, rfl, rfl, rfl, T_kinds.k i (by omega), by omega, ?_, fun H3 s3 => q H3 (s1.trans (s2.trans s3))⟩
        unfold wordT
        rw [if_neg (by omega), ho]
        rcases hi with rfl | rfl
        · rfl
        · rfl
      · refine ⟨true, T_kinds.o1.m, fun _ e ne => ?_, fun z => Bool.noConfusion z⟩
        refine ⟨cs 1, 1, wordT x (isBarB ns) o, rfl, rfl, rfl, T_kinds.k 1 (by decide), by decide, ?_, fun H3 s3 => q H3 (s1.trans (s2.trans s3))⟩
        unfold wordT
        rw [if_neg (by omega), ho]
        show some _ = some (if x = 8 then _ else _)
        rw [if_pos h8]
        all_goals rfl
    · refine ⟨true, T_kinds.o0.m, fun _ e ne => ?_, fun z => Bool.noConfusion z⟩
      refine ⟨cs 0, 0, wordT x (isBarB ns) o, rfl, rfl, rfl, T_kinds.k 0 (by decide), by decide, ?_, fun H3 s3 => q H3 (s1.trans s3)⟩
      unfold wordT
      rw [if_pos h4, if_pos hb]
      all_goals rfl
    · refine ⟨true, T_kinds.o1.m, fun _ e ne => ?_, fun z => Bool.noConfusion z⟩
      refine ⟨cs 1, 1, wordT x (isBarB ns) o, rfl, rfl, rfl, T_kinds.k 1 (by decide), by decide, ?_, fun H3 s3 => q H3 (s1.trans s3)⟩
      unfold wordT
      rw [if_pos (by omega), if_neg (by rw [hb]; decide), if_pos h1]
      all_goals rfl
end
abbrev s_law_spoilt : Stmt := topS 38
abbrev N_law_spoilt : List Str := ["bar", "kind", "cell", "far", "at"]
theorem sc_law_spoilt : FnScope N_law_spoilt ["bar", "kind", "cell"] (defScope s_law_spoilt) := ⟨rfl, rfl, rfl, by decide +kernel, rfl, by decide +kernel, by decide +kernel⟩
section
variable {P : Program} {w : World} {K : PySem.W.Frag} {mg : Str → Option Value} {base : Heap}
theorem falls_12 : ∀ (l : List Int) (m : Int), falls m (l ++ [1, 2]) = false
  | [], m => by
    show (decide (1 ≤ (1 : Int) ∧ 1 ≤ m) && (decide ((1 : Int) ≤ 2 ∧ (2 : Int) ≤ 1) && true)) = false
    rw [decide_eq_false (p := (1 : Int) ≤ 2 ∧ (2 : Int) ≤ 1) (by omega), Bool.false_and, Bool.and_false]
  | x :: l, m => by
    show (decide _ && falls x (l ++ [1, 2])) = false
    rw [falls_12 l x, Bool.and_false]
theorem falls_low {x : Int} (h : x < 1) (r : List Int) : ∀ (l : List Int) (m : Int), falls m (l ++ x :: r) = false
  | [], m => by
    show (decide (1 ≤ x ∧ x ≤ m) && falls x r) = false
    rw [decide_eq_false (by omega), Bool.false_and]
  | y :: l, m => by
    show (decide _ && falls y (l ++ x :: r)) = false
    rw [falls_low h r l y, Bool.and_false]
theorem not_bar {b : List Int} (h : falls 5 b = false) : isBarB b = false := by
  unfold isBarB
  rw [h, Bool.and_false]
/-- _law_spoilt(bar, kind, cell): a new list that is no bar -/
def sp_law_spoilt (K : PySem.W.Frag) : Sp := fun vs H Q _ => ∃ (a : Addr) (ns : List Int) (k c : Int), vs = [.ref a, .int k, .int c] ∧ H a = some (.lst (ns.map V.int)) ∧ IsBar 5 ns ∧ 0 ≤ k ∧ k ≤ 4 ∧ 0 ≤ c ∧
  ∀ H' p ms, Same H H' → H p = none → H' p = some (.lst (ms.map V.int)) → isBarB ms = false → Q (.ref p) H'
theorem ok_law_spoilt {f : Addr} {fd : FuncData} (F : Fun K "_law_spoilt" "_law_spoilt" s_law_spoilt f fd) (m_len : mg "len" = none) : FnOk P w K mg base CX0 1 f fd ["bar", "kind", "cell"] (sp_law_spoilt K) := by
  refine F.ok sc_law_spoilt (fun vs H Q E h => ?_) (fun cdv A outer s H vs Q E hr h => ?_)
  · obtain ⟨a, ns, k, c, rfl, _⟩ := h
    rfl
  · obtain ⟨a, ns, k, c, rfl, ha, ib, k0, k4, c0, q⟩ := h
    have l5 := ib.le
    have l1 := ib.ne
    refine ⟨_, (pss_cons (ps_set (i := 3) sc_law_spoilt.nd rfl (.inl rfl) (pe_op op_mod (pe_op op_fdiv (pv 2) pe_int) (pe_op op_pow pe_int pe_int)))
      (pss_cons (ps_set (i := 4) sc_law_spoilt.nd rfl (.inl rfl) (pe_op op_mod (pv 2) (pe_callB (lenK (K := K)) (by rfl) m_len PySem.boot_len (pa_cons (pv 0) pa_nil))))
      (pss_cons (ps_if (pt_cmpR op_eq (pv 1) pe_int (nomark _))
        (pss_one (ps_ret (pe_lst pa_nil)))
        pss_nil)
      (pss_cons (ps_if (pt_cmpR op_eq (pv 1) pe_int (nomark _))
        (pss_one (ps_ret (pe_lst (pa_cons pe_int (pa_cons pe_int (pa_cons pe_int (pa_cons pe_int (pa_cons pe_int (pa_cons pe_int pa_nil)))))))))
        pss_nil)
      (pss_cons (ps_if (pt_cmpR op_eq (pv 1) pe_int (nomark _))
        (pss_one (ps_ret (pe_op op_cat (pe_slice (slK (K := K)) (pv 0) po_none (po_some (pv 4))) (pe_lst (pa_cons pe_int (pa_cons pe_int pa_nil))))))
        pss_nil)
      (pss_cons (ps_if (pt_cmpR op_eq (pv 1) pe_int (nomark _))
        (pss_one (ps_ret (pe_op op_cat (pe_lst (pa_cons (pe_op op_add pe_int (pv 3)) pa_nil)) (pe_slice (slK (K := K)) (pv 0) (po_some pe_int) po_none))))
        pss_nil)
      (pss_one (ps_ret (pe_op op_cat (pe_op op_cat (pe_slice (slK (K := K)) (pv 0) po_none (po_some (pv 4))) (pe_lst (pa_cons (pe_ix (ixK (K := K)) (pe_lst (pa_cons pe_int (pa_cons (pe_op op_sub (pe_un un_neg pe_int) (pv 3)) pa_nil))) (pe_op op_mod (pe_op op_fdiv (pv 2) pe_int) pe_int) (fun _ _ => rfl)) pa_nil))) (pe_slice (slK (K := K)) (pv 0) (po_some (pe_op op_add (pv 4) pe_int)) po_none)))))))))), ?_⟩
    refine ⟨_, rfl, _, _, rfl, rfl, by show (0 : Int) < 20 ∧ (20 : Int) < 1073741824; decide, _, _, rfl, rfl, by show (0:Int) ≤ 20 ∧ (20:Int) ≤ 1000000 ∧ (10:Int).natAbs < 2 ^ 64; decide, _, _, rfl, rfl, by show (0 : Int) < 10 ^ (20 : Int).toNat; decide, ?_⟩
    have hfar : 0 ≤ c / 20 % 10 ^ (20 : Int).toNat := Int.emod_nonneg _ (by decide)
    generalize hf : c / 20 % 10 ^ (20 : Int).toNat = far at hfar
    have lm := List.length_map (as := ns) V.int
    refine ⟨_, rfl, _, rfl, a, _, rfl, .inl (SqL.of ha), _, _, rfl, rfl, by show (0 : Int) < ((ns.map V.int).length : Int); omega, ?_⟩
    obtain ⟨m, em, hm⟩ : ∃ m : Nat, c % ((ns.map V.int).length : Int) = (m : Int) ∧ m < ns.length := by
      have h0 := Int.emod_nonneg c (show ((ns.map V.int).length : Int) ≠ 0 by omega)
      have h1 := Int.emod_lt_of_pos c (show (0 : Int) < ((ns.map V.int).length : Int) by omega)
      exact ⟨(c % ((ns.map V.int).length : Int)).toNat, by omega, by omega⟩
    refine ⟨_, rfl, rfl, _, rfl, d2_ (fun _ => ⟨Nat.zero_le _, fun p np => q _ p [] (sNew np) np upd_same rfl⟩) (fun e0 => ?_)⟩
    refine ⟨_, rfl, rfl, _, rfl, d2_ (fun _ => ⟨by show 6 ≤ sizeLine; decide, fun p np => q _ p [2, 2, 1, 1, 1, 1] (sNew np) np upd_same (by decide)⟩) (fun e1 => ?_)⟩
    refine ⟨_, rfl, rfl, _, rfl, d2_ (fun _ => ?_) (fun e2 => ?_)⟩
    · refine ⟨_, rfl, _, rfl, (m : Int), congrArg V.int em, a, _, rfl, SqL.of ha, fun p1 n1 => ?_⟩
      rw [cut_take, ← List.map_take]
      have s1 := sNew (o := .lst ((ns.take m).map V.int)) n1
      have h1 : upd H p1 (.lst ((ns.take m).map V.int)) p1 = some (.lst ((ns.take m).map V.int)) := upd_same
      generalize upd H p1 (.lst ((ns.take m).map V.int)) = H1 at s1 h1 ⊢
      refine ⟨by show 2 ≤ sizeLine; decide, fun p2 n2 => ?_⟩
      have s2 := s1.trans (sNew (o := .lst [.int 1, .int 2]) n2)
      refine ⟨p1, p2, _, _, rfl, rfl, sNew n2 _ _ h1, upd_same, by rw [List.length_map, List.length_take]; exact small (by show min m ns.length + 2 ≤ 100000; omega), fun p np => q _ p (ns.take m ++ [1, 2]) (s2.trans (sNew np)) (s2.free np) ?_ (not_bar (falls_12 _ _))⟩
      rw [upd_same, List.map_append]
      all_goals rfl
    refine ⟨_, rfl, rfl, _, rfl, d2_ (fun _ => ?_) (fun e3 => ?_)⟩
    · refine ⟨_, rfl, _, _, rfl, rfl, by show 1 ≤ sizeLine; decide, fun p1 n1 => ?_⟩
      have s1 := sNew (o := .lst [.int (6 + far)]) n1
      have h1 : upd H p1 (.lst [.int (6 + far)]) p1 = some (.lst [.int (6 + far)]) := upd_same
      dsimp only
      rw [hf]
      generalize upd H p1 (.lst [.int (6 + far)]) = H1 at s1 h1 ⊢
      refine ⟨_, rfl, (1 : Int), rfl, a, _, rfl, SqL.of (s1 _ _ ha), fun p2 n2 => ?_⟩
      rw [show cutV (ns.map V.int) (some 1) none = ((ns.drop 1).map V.int) by rw [show (1 : Int) = ((1 : Nat) : Int) from rfl, cut_drop, List.map_drop]]
      have s2 := s1.trans (sNew (o := .lst ((ns.drop 1).map V.int)) n2)
      refine ⟨p1, p2, _, _, rfl, rfl, sNew n2 _ _ h1, upd_same, by rw [List.length_map, List.length_drop]; exact small (by show 1 + (ns.length - 1) ≤ 100000; omega), fun p np => q _ p ((6 + far) :: ns.drop 1) (s2.trans (sNew np)) (s2.free np) upd_same (not_bar ?_)⟩
      show (decide (1 ≤ 6 + far ∧ 6 + far ≤ 5) && falls (6 + far) (ns.drop 1)) = false
      rw [decide_eq_false (by omega), Bool.false_and]
    · refine ⟨_, rfl, _, rfl, (m : Int), congrArg V.int em, a, _, rfl, SqL.of ha, fun p1 n1 => ?_⟩
      rw [cut_take, ← List.map_take]
      have s1 := sNew (o := .lst ((ns.take m).map V.int)) n1
      have h1 : upd H p1 (.lst ((ns.take m).map V.int)) p1 = some (.lst ((ns.take m).map V.int)) := upd_same
      generalize upd H p1 (.lst ((ns.take m).map V.int)) = H1 at s1 h1 ⊢
      refine ⟨_, rfl, _, rfl, _, _, rfl, rfl, by show 2 ≤ sizeLine; decide, fun g ng => ?_⟩
      have s2 := sNew (o := .lst [.int 0, .int (-1 - far)]) ng
      have h2 : upd H1 g (.lst [.int 0, .int (-1 - far)]) g = some (.lst [.int 0, .int (-1 - far)]) := upd_same
      dsimp only
      rw [hf]
      generalize upd H1 g (.lst [.int 0, .int (-1 - far)]) = H2 at s2 h2 ⊢
      obtain ⟨v, hv, v1⟩ : ∃ v : Int, atI [V.int 0, V.int (-1 - far)] (c / 5 % 2) = some (.int v) ∧ v < 1 := by
        rcases (by omega : c / 5 % 2 = 0 ∨ c / 5 % 2 = 1) with e | e
        · exact ⟨0, by rw [e]; rfl, by omega⟩
        · exact ⟨-1 - far, by rw [e]; rfl, by omega⟩
      refine ⟨_, rfl, _, _, rfl, rfl, by show (0 : Int) < 5 ∧ (5 : Int) < 1073741824; decide, _, _, rfl, rfl, by show (0 : Int) < 2; decide, g, _, _, _, rfl, rfl, SqL.of h2, hv, ?_⟩
      refine ⟨by show 1 ≤ sizeLine; decide, fun p2 n2 => ?_⟩
      have s3 := sNew (o := .lst [.int v]) n2
      have h3 : upd H2 p2 (.lst [.int v]) p2 = some (.lst [.int v]) := upd_same
      generalize upd H2 p2 (.lst [.int v]) = H3 at s3 h3 ⊢
      refine ⟨p1, p2, _, _, rfl, rfl, s3 _ _ (s2 _ _ h1), h3, by rw [List.length_map, List.length_take]; exact small (by show min m ns.length + 1 ≤ 100000; omega), fun p3 n3 => ?_⟩
      have s4 := sNew (o := .lst ((ns.take m).map V.int ++ [V.int v])) n3
      have h4 : upd H3 p3 (.lst ((ns.take m).map V.int ++ [V.int v])) p3 = some (.lst ((ns.take m).map V.int ++ [V.int v])) := upd_same
      generalize upd H3 p3 (.lst ((ns.take m).map V.int ++ [V.int v])) = H4 at s4 h4 ⊢
      have s14 := s1.trans (s2.trans (s3.trans s4))
      refine ⟨_, rfl, _, rfl, _, _, rfl, rfl, ((m + 1 : Nat) : Int), congrArg V.int (by rw [em]; omega), a, _, rfl, SqL.of (s14 _ _ ha), fun p4 n4 => ?_⟩
      rw [cut_drop, ← List.map_drop]
      have s5 := s14.trans (sNew (o := .lst ((ns.drop (m + 1)).map V.int)) n4)
      refine ⟨p3, p4, _, _, rfl, rfl, sNew n4 _ _ h4, upd_same, by rw [List.length_append, List.length_map, List.length_take, List.length_map, List.length_drop]; exact small (by show min m ns.length + 1 + (ns.length - (m + 1)) ≤ 100000; omega), fun p np => q _ p (ns.take m ++ v :: ns.drop (m + 1)) (s5.trans (sNew np)) (s5.free np) ?_ (not_bar (falls_low v1 _ _ _))⟩
      rw [upd_same, List.map_append, List.append_assoc]
      all_goals rfl
end
abbrev s_law : Stmt := topS 39
abbrev N_law : List Str := ["script", "due", "most", "table", "k", "at", "bar", "which", "wanted", "one"]
theorem sc_law : FnScope N_law ["script"] (defScope s_law) := ⟨rfl, rfl, rfl, by decide +kernel, rfl, by decide +kernel, by decide +kernel⟩
section
variable {P : Program} {w : World} {K : PySem.W.Frag} {mg : Str → Option Value} {base : Heap}
/-- the words that are due -/
def dueB (b : Bool) : Str := if b = true then "done" else "bar"
def dueT : Option Nat → Str
  | none => "done"
  | some 0 => "bar"
  | some _ => "table"
theorem word_due (x : Int) (b : Bool) (o : Option Nat) : wordT x b o = if (if 4 < x then dueT o else dueB b) = ("done" : Str) ∧ (x = 1 ∨ x = 8) then ("bite" : Str) else (if 4 < x then dueT o else dueB b) := by
  unfold wordT
  by_cases h : x ≤ 4
  · rw [if_pos h, if_neg (show ¬ 4 < x by omega)]
    cases b
    · rw [if_pos rfl]
      exact (if_neg (fun z => absurd z.1 (by decide))).symm
    · rw [if_neg (by decide)]
      by_cases h1 : x = 1
      · rw [if_pos h1, if_pos ⟨rfl, .inl h1⟩]
      · rw [if_neg h1, if_neg (fun z => by rcases z.2 with z | z <;> omega)]
        all_goals rfl
  · rw [if_neg h, if_pos (show 4 < x by omega)]
    match o with
    | none =>
      by_cases h8 : x = 8
      · show (if x = 8 then _ else _) = _
        rw [if_pos h8, if_pos ⟨rfl, .inr h8⟩]
      · show (if x = 8 then _ else _) = _
        rw [if_neg h8, if_neg (fun z => by rcases z.2 with z | z <;> omega)]
        all_goals rfl
    | some 0 => exact (if_neg (fun z => absurd z.1 (by decide))).symm
    | some (_ + 1) => exact (if_neg (fun z => absurd (show ("table" : Str) = "done" from z.1) (by decide))).symm
theorem ok_law {f : Addr} {fd : FuncData} (F : Fun K "law" "law" s_law f fd) (m_len : mg "len" = none) (m_list : mg "list" = none) (m_range : mg "range" = none) (m_int : mg "int" = none) (C_law_bar_by : Cal P w K mg base CX0 1 "_law_bar_by" ["cell", "most"] (sp_law_bar_by K)) (C_law_cell_at : Cal P w K mg base CX0 1 "_law_cell_at" ["script", "k"] (sp_law_cell_at K))
    (C_law_tried : Cal P w K mg base CX0 32 "_law_tried" ["which", "bar", "table"] (sp_law_tried K)) (C_law_spoilt : Cal P w K mg base CX0 1 "_law_spoilt" ["bar", "kind", "cell"] (sp_law_spoilt K)) : FnOk P w K mg base CX0 33 f fd ["script"] (sp_law K) := by
  refine F.ok sc_law (fun vs H Q E h => ?_) (fun cdv A outer s H vs Q E hr h => ?_)
  · obtain ⟨a, ns, rfl, _⟩ := h
    rfl
  · obtain ⟨a, ns, rfl, hS, h63, q⟩ := h
    refine ⟨_, (pss_cons (ps_set (i := 1) sc_law.nd rfl (.inl rfl) (pe_lst (pa_cons pe_str (pa_cons pe_str pa_nil))))
      (pss_cons (ps_set (i := 2) sc_law.nd rfl (.inr rfl) (pe_ix (ixK (K := K)) (pe_lst (pa_cons pe_int (pa_cons pe_int (pa_cons pe_int (pa_cons pe_int pa_nil))))) (pe_op op_mod (pe_c C_law_cell_at hr (by decide) pass0 (pa_cons (pv 0) (pa_cons pe_int pa_nil))) pe_int) (fun _ _ => rfl)))
      (pss_cons (ps_setLc (i := 3) (own := [("k", 4)]) (g := gName 4) (tt := tYes) rfl sc_law.nd rfl rfl (sw_true rfl rfl rfl (by decide +kernel)) (pi_range1 (by rfl) m_range (pa_cons (pe_op op_add pe_int (pe_op op_mod (pe_c C_law_cell_at hr (by decide) pass0 (pa_cons (pv 0) (pa_cons pe_int pa_nil))) pe_int)) pa_nil)) (blkOk_by (N := N_law) (sc := defScope s_law) (by decide +kernel)) (fun _ _ _ _ _ => (pg_name (i := 4) sc_law.nd rfl (.inl rfl))) (fun _ _ _ _ _ => pts_nil) (fun _ _ _ _ _ => (pe_c C_law_bar_by hr (by decide) pass0 (pa_cons (pe_c C_law_cell_at hr (by decide) pass0 (pa_cons (pv 0) (pa_cons (pe_op op_add pe_int (pv 4)) pa_nil))) (pa_cons (pv 2) pa_nil)))))
      (pss_cons (ps_set (i := 5) sc_law.nd rfl (.inl rfl) (pe_op op_mod (pe_c C_law_cell_at hr (by decide) pass0 (pa_cons (pv 0) (pa_cons pe_int pa_nil))) (pe_callB (lenK (K := K)) (by rfl) m_len PySem.boot_len (pa_cons (pv 3) pa_nil))))
      (C8.pss_cut (ps_if (pt_cmpR op_eq (pe_op op_mod (pe_c C_law_cell_at hr (by decide) pass0 (pa_cons (pv 0) (pa_cons pe_int pa_nil))) pe_int) pe_int (nomark _))
        (pss_cons (ps_asg (pe_c C_law_spoilt hr (by decide) pass0 (pa_cons (pe_ix (ixK (K := K)) (pv 3) (pv 5) (fun _ _ => rfl)) (pa_cons (pe_op op_mod (pe_c C_law_cell_at hr (by decide) pass0 (pa_cons (pv 0) (pa_cons pe_int pa_nil))) pe_int) (pa_cons (pe_op op_mod (pe_c C_law_cell_at hr (by decide) pass0 (pa_cons (pv 0) (pa_cons pe_int pa_nil))) (pe_op op_pow pe_int pe_int)) pa_nil)))) (pg_sub (pv 3) (pv 5) set_list))
        (pss_one (ps_set (i := 1) sc_law.nd rfl (.inl rfl) (pe_lst (pa_cons pe_str (pa_cons pe_str pa_nil))))))
        pss_nil)
      (pss_cons (ps_set (i := 6) sc_law.nd rfl (.inl rfl) (pe_ix (ixK (K := K)) (pv 3) (pv 5) (fun _ _ => rfl)))
      (C8.pss_cut (ps_if (pt_cmpR op_eq (pe_op op_mod (pe_c C_law_cell_at hr (by decide) pass0 (pa_cons (pv 0) (pa_cons pe_int pa_nil))) pe_int) pe_int (nomark _))
        (pss_cons (ps_set (i := 3) sc_law.nd rfl (.inl rfl) (pe_op op_cat (pv 3) (pe_lc (own := [("k", 4)]) (g := gName 4) (tt := tYes) rfl sc_law.nd (pi_range1 (by rfl) m_range (pa_cons (pe_op op_add (pe_op op_sub pe_int (pe_callB (lenK (K := K)) (by rfl) m_len PySem.boot_len (pa_cons (pv 3) pa_nil))) (pe_op op_mod (pe_op op_fdiv (pe_c C_law_cell_at hr (by decide) pass0 (pa_cons (pv 0) (pa_cons pe_int pa_nil))) pe_int) pe_int)) pa_nil)) (blkOk_by (N := N_law) (sc := defScope s_law) (by decide +kernel)) (fun _ _ _ _ _ => (pg_name (i := 4) sc_law.nd rfl (.inl rfl))) (fun _ _ _ _ _ => pts_nil) (fun _ _ _ _ _ => (pe_lst (pa_cons pe_int (pa_cons pe_int pa_nil)))))))
        (pss_one (ps_asg pe_str (pg_sub (pv 1) pe_int set_list))))
        pss_nil)
      (pss_cons (ps_for PassesOwn.never rfl (pi_range1 (by rfl) m_range (pa_cons pe_int pa_nil)) (pg_name (i := 7) sc_law.nd rfl (.inl rfl))
        (pss_cons (ps_set (i := 8) sc_law.nd rfl (.inl rfl) (pe_ix (ixK (K := K)) (pv 1) (pe_callTy call_int1 (by rfl) m_int (by decide +kernel) (pa_cons (pe_cmpR op_gt (pv 7) pe_int (nomark _)) pa_nil)) (fun _ _ => rfl)))
        (C8.pss_cut (ps_if (PW.pt (pw_and (pt_cmpR op_eq (pv 8) pe_str (nomark _)) (pw_and1 (PW.pt (pw_or (pt_cmpR op_eq (pv 7) pe_int (nomark _)) (pw_or1 (pt_cmpR op_eq (pv 7) pe_int (nomark _))))))))
          (pss_one (ps_set (i := 8) sc_law.nd rfl (.inl rfl) pe_str))
          pss_nil)
        (pss_one (ps_if (pt_cmpR op_ne (pe_c C_law_tried hr (by decide) pass0 (pa_cons (pv 7) (pa_cons (pe_callTy (listK (K := K)) (by rfl) m_list (by decide +kernel) (pa_cons (pv 6) pa_nil)) (pa_cons (pe_lc (own := [("one", 9)]) (g := gName 9) (tt := tYes) rfl sc_law.nd (pi_listK (K := K) (pv 3)) (blkOk_by (N := N_law) (sc := defScope s_law) (by decide +kernel)) (fun _ _ _ _ _ => (pg_name (i := 9) sc_law.nd rfl (.inl rfl))) (fun _ _ _ _ _ => pts_nil) (fun _ _ _ _ _ => (pe_callTy (listK (K := K)) (by rfl) m_list (by decide +kernel) (pa_cons (pv 9) pa_nil)))) pa_nil)))) (pv 8) (nomark _))
          (pss_one (ps_ret pe_bl))
          pss_nil)))))
      (pss_one (ps_ret pe_bl)))))))))), ?_⟩
    -- due, most
    refine ⟨by show 2 ≤ sizeLine; decide, fun u nu => ?_⟩
    have s0 : Same H (upd H u (.lst [.str "done", .str "done"])) := sNew nu
    have hu0 : upd H u (.lst [.str "done", .str "done"]) u = some (.lst [.str "done", .str "done"]) := upd_same
    generalize upd H u (.lst [.str "done", .str "done"]) = H0 at s0 hu0 ⊢
    refine ⟨by show 4 ≤ sizeLine; decide, fun g ng => ?_⟩
    have t1 : Same H0 (upd H0 g (.lst [.int 4, .int 3, .int 3, .int 3])) := sNew ng
    have hg1 : upd H0 g (.lst [.int 4, .int 3, .int 3, .int 3]) g = some (.lst (([4, 3, 3, 3] : List Int).map V.int)) := upd_same
    generalize upd H0 g (.lst [.int 4, .int 3, .int 3, .int 3]) = H1 at t1 hg1 ⊢
    obtain ⟨j, m, ej, em, m1, m5⟩ : ∃ (j : Nat) (m : Int), cellAt ns 9 % 4 = (j : Int) ∧ ([4, 3, 3, 3] : List Int)[j]? = some m ∧ 1 ≤ m ∧ m ≤ 5 := by
      rcases (by omega : cellAt ns 9 % 4 = 0 ∨ cellAt ns 9 % 4 = 1 ∨ cellAt ns 9 % 4 = 2 ∨ cellAt ns 9 % 4 = 3) with e | e | e | e
      · exact ⟨0, 4, e, rfl, by decide, by decide⟩
      · exact ⟨1, 3, e, rfl, by decide, by decide⟩
      · exact ⟨2, 3, e, rfl, by decide, by decide⟩
      · exact ⟨3, 3, e, rfl, by decide, by decide⟩
    have hS1 := (s0.trans t1).seq hS
    have hu1 := t1 _ _ hu0
    refine ⟨_, rfl, a, ns, 9, rfl, hS1, _, _, rfl, rfl, by show (0 : Int) < 4; decide, g, _, (j : Int), .int m, rfl, congrArg V.int ej, SqL.of hg1, at_map em, ?_⟩
    -- the table
    refine ⟨_, rfl, a, ns, 0, rfl, hS1, _, _, rfl, rfl, by show (0 : Int) < 3; decide, _, _, rfl, rfl, _, rfl, by omega, by omega, fun T nT => ?_⟩
    have uT : u ≠ T := ne_of_none hu1 nT
    refine lc_range (lo := 0) (n := (1 + cellAt ns 0 % 3).toNat) (fun i H' => ∃ (ys : List V) (ds : List (List Int)), Same H1 H' ∧ H' T = some (.lst ys) ∧ LL H' ys ds ∧ (∀ d ∈ ds, IsBar 5 d) ∧ ds.length = i ∧ V.ref T ∉ ys)
      ⟨[], [], sNew nT, upd_same, Paired.nil, fun x hx => (nomatch hx), rfl, by simp⟩ ?_ ?_
    · rintro i H2 hi ⟨ys, ds, s2, hT, ly, ib, el, nm⟩
      refine ⟨rfl, yesT ?_⟩
      refine ⟨_, rfl, _, rfl, _, _, rfl, rfl, a, ns, 1 + i, ?_, s2.seq hS1, ?_⟩
      · show [V.ref a, V.int (1 + (0 + (i : Int)))] = [V.ref a, V.int ((1 + i : Nat) : Int)]
        rw [show 1 + (0 + (i : Int)) = ((1 + i : Nat) : Int) by omega]
      refine ⟨_, rfl, _, m, rfl, m1, m5, fun H3 b bs s3 nb hb ib2 => ?_⟩
      have Tb : T ≠ b := ne_of_none hT nb
      have hyl : ys.length = i := by rw [ly.length, el]
      refine ⟨ys, s3 _ _ hT, small' (by omega), ys ++ [.ref b], ds ++ [bs], sPut (s2.trans s3) nT, upd_same, ?_, ?_, by rw [List.length_append, el]; rfl, fun z => ?_⟩
      · refine LL.snoc (LL.keepM ly fun c cs hm e => ?_) (by rw [upd_ne Tb.symm]; exact hb)
        have h1 : c ≠ T := fun z => nm (by rw [← z]; exact hm)
        rw [upd_ne h1]
        exact s3 _ _ e
      · intro d hd
        rcases List.mem_append.mp hd with h | h
        · exact ib d h
        · rw [List.mem_singleton.mp h]
          exact ib2.mono m5
      · rcases List.mem_append.mp z with h | h
        · exact nm h
        · exact Tb (V.ref.inj (List.mem_singleton.mp h))
    rintro H2 ⟨xs, ds, s2, hT, lT, ib, el, nm⟩
    have hS2 := s2.seq hS1
    have hu2 := s2 _ _ hu1
    have ex := lT.length
    have d3 : 1 ≤ ds.length ∧ ds.length ≤ 3 := ⟨by omega, by omega⟩
    -- at
    refine ⟨_, rfl, a, ns, 4, rfl, hS2, _, rfl, T, _, rfl, .inl (SqL.of hT), _, _, rfl, rfl, by show (0 : Int) < ((xs.length : Nat) : Int); omega, ?_⟩
    obtain ⟨p, ep, hp⟩ : ∃ p : Nat, cellAt ns 4 % ((xs.length : Nat) : Int) = (p : Int) ∧ p < ds.length := by
      have h0 := Int.emod_nonneg (cellAt ns 4) (show ((xs.length : Nat) : Int) ≠ 0 by omega)
      have h1 := Int.emod_lt_of_pos (cellAt ns 4) (show (0 : Int) < ((xs.length : Nat) : Int) by omega)
      exact ⟨(cellAt ns 4 % ((xs.length : Nat) : Int)).toNat, by omega, by omega⟩
    -- one bar spoilt
    refine ⟨fun σ' H' => ∃ (u : Addr) (xs : List V) (ds : List (List Int)) (t : Addr) (d : List Int), σ' = [some (.ref a), some (.ref u), some (.int m), some (.ref T), none, some (.int (p : Nat)), none, none, none, none] ∧ SqL K H' a (ns.map V.int) ∧ H' T = some (.lst xs) ∧ LL H' xs ds ∧
      1 ≤ ds.length ∧ ds.length ≤ 3 ∧ xs[p]? = some (.ref t) ∧ ds[p]? = some d ∧ H' t = some (.lst (d.map V.int)) ∧ H' u = some (.lst [.str (dueB (isBarB d)), .str (dueB (isBarB d))]) ∧ (isBarB d = true → ∀ d ∈ ds, IsBar 5 d), ?_, ?_⟩
    · have hd := List.getElem?_eq_getElem hp
      generalize ds[p] = d at hd
      obtain ⟨t, ht, hdt⟩ := lT.get hd
      have ibd := ib d (List.mem_of_getElem? hd)
      refine ⟨_, rfl, a, ns, 5, rfl, hS2, _, _, rfl, rfl, by show (0 : Int) < 2; decide, rfl, _, rfl, d2_ (fun h => ?_) (fun h => ?_)⟩
      · refine ⟨_, rfl, _, rfl, T, _, (p : Int), _, rfl, congrArg V.int ep, SqL.of hT, atI_nat ht, _, rfl, a, ns, 6, rfl, hS2, _, _, rfl, rfl, by show (0 : Int) < 5; decide, ?_⟩
        refine ⟨_, rfl, a, ns, 7, rfl, hS2, _, _, rfl, rfl, by show (0:Int) ≤ 25 ∧ (25:Int) ≤ 1000000 ∧ (10:Int).natAbs < 2 ^ 64; decide, _, _, rfl, rfl, by show (0 : Int) < 10 ^ (25 : Int).toNat; decide, ?_⟩
        refine ⟨t, d, _, _, rfl, hdt, ibd, Int.emod_nonneg _ (by decide), by have := Int.emod_lt_of_pos (cellAt ns 6) (show (0 : Int) < 5 by decide); omega, Int.emod_nonneg _ (by decide), fun H3 b ms s3 nb hb hbad => ?_⟩
        have hT3 := s3 _ _ hT
        have bT : b ≠ T := (ne_of_none hT nb).symm
        refine ⟨_, rfl, _, rfl, T, xs, (p : Int), p, rfl, congrArg V.int ep, hT3, ?_, ?_⟩
        · unfold ixN
          rw [if_pos (by omega), if_pos (by omega), Int.toNat_natCast]
        have hb4 : upd H3 T (.lst (xs.set p (.ref b))) b = some (.lst (ms.map V.int)) := by rw [upd_ne bT]; exact hb
        have l4 : LL (upd H3 T (.lst (xs.set p (.ref b)))) (xs.set p (.ref b)) (ds.set p ms) := LL.set hb4 p (LL.keepM lT fun c cs hm e => by
          have cT : c ≠ T := fun z => nm (by rw [← z]; exact hm)
          rw [upd_ne cT]
          exact s3 _ _ e)
        have hT4 : upd H3 T (.lst (xs.set p (.ref b))) T = some (.lst (xs.set p (.ref b))) := upd_same
        have s4 : Same H1 (upd H3 T (.lst (xs.set p (.ref b)))) := sPut (s2.trans s3) nT
        generalize upd H3 T (.lst (xs.set p (.ref b))) = H4 at hb4 l4 hT4 s4 ⊢
        refine ⟨by show 2 ≤ sizeLine; decide, fun u2 nu2 => ?_⟩
        have s5 : Same H4 (upd H4 u2 (.lst [.str "bar", .str "bar"])) := sNew nu2
        refine ⟨u2, xs.set p (.ref b), ds.set p ms, b, ms, ?_, (s4.trans s5).seq hS1, s5 _ _ hT4, l4.same s5, by rw [List.length_set]; exact d3.1, by rw [List.length_set]; exact d3.2, ?_, ?_, s5 _ _ hb4, ?_, fun z => absurd (z.symm.trans hbad) (by decide)⟩
        · show [some (V.ref a), some (V.ref u2), some (V.int m), some (V.ref T), none, some (V.int (cellAt ns 4 % ((xs.length : Nat) : Int))), none, none, none, none] = _
          rw [ep]
        · rw [List.getElem?_set_self (by omega)]
        · rw [List.getElem?_set_self hp]
        · rw [hbad, upd_same]
          rfl
      · refine ⟨u, xs, ds, t, d, ?_, hS2, hT, lT, d3.1, d3.2, ht, hd, hdt, ?_, fun _ => ib⟩
        · show [some (V.ref a), some (V.ref u), some (V.int m), some (V.ref T), none, some (V.int (cellAt ns 4 % ((xs.length : Nat) : Int))), none, none, none, none] = _
          rw [ep]
        · rw [isBarB_iff.mpr ibd]
          exact hu2
    clear hp ep d3 ex hu2 hS2 nm el ib lT hT s2 ds xs H2 uT hu1 hu0 hS1 hg1 t1 s0 nu ng u
    rintro σ' H2 ⟨u, xs, ds, t, d, rfl, hS2, hT, lT, l1, l3, hx, hd, ht, hu, good⟩
    have ex := lT.length
    refine ⟨_, rfl, _, rfl, T, _, _, _, rfl, rfl, SqL.of hT, atI_nat hx, ?_⟩
    -- too many bars
    refine ⟨fun σ' H' => ∃ (T : Addr) (xs : List V) (ds : List (List Int)) (o : Option Nat), σ' = [some (.ref a), some (.ref u), some (.int m), some (.ref T), none, some (.int (p : Nat)), some (.ref t), none, none, none] ∧ H' T = some (.lst xs) ∧ LL H' xs ds ∧ ds.length ≤ 100 ∧
      H' t = some (.lst (d.map V.int)) ∧ H' u = some (.lst [.str (dueB (isBarB d)), .str (dueT o)]) ∧ TCase ds o, ?_, ?_⟩
    · refine ⟨_, rfl, a, ns, 8, rfl, hS2, _, _, rfl, rfl, by show (0 : Int) < 3; decide, rfl, _, rfl, d2_ (fun h => ?_) (fun h => ?_)⟩
      · refine ⟨_, rfl, _, rfl, T, _, rfl, .inl (SqL.of hT), _, _, rfl, rfl, ?_⟩
        refine ⟨_, rfl, a, ns, 8, rfl, hS2, _, _, rfl, rfl, by show (0 : Int) < 3 ∧ (3 : Int) < 1073741824; decide, _, _, rfl, rfl, by show (0 : Int) < 3; decide, _, _, rfl, rfl, _, rfl, by omega, by omega, fun D nD => ?_⟩
        have h0 := Int.emod_nonneg (cellAt ns 8 / 3) (show (3 : Int) ≠ 0 by decide)
        have h1 := Int.emod_lt_of_pos (cellAt ns 8 / 3) (show (0 : Int) < 3 by decide)
        have TD : T ≠ D := ne_of_none hT nD
        have uD : u ≠ D := ne_of_none hu nD
        have tD : t ≠ D := ne_of_none ht nD
        refine lc_range (lo := 0) (n := (4 - (xs.length : Int) + cellAt ns 8 / 3 % 3).toNat) (fun i H' => ∃ (ys : List V), Same H2 H' ∧ H' D = some (.lst ys) ∧ LL H' ys (List.replicate i [2, 1]) ∧ V.ref D ∉ ys)
          ⟨[], sNew nD, upd_same, Paired.nil, by simp⟩ ?_ ?_
        · rintro i H3 hi ⟨ys, s3, hD, ly, nm⟩
          refine ⟨rfl, yesT ?_⟩
          refine ⟨by show 2 ≤ sizeLine; decide, fun b nb => ?_⟩
          have Db : D ≠ b := ne_of_none hD nb
          have hyl : ys.length = i := by rw [ly.length, List.length_replicate]
          have s4 : Same H3 (upd H3 b (.lst [.int 2, .int 1])) := sNew nb
          have hb4 : upd H3 b (.lst [.int 2, .int 1]) b = some (.lst (([2, 1] : List Int).map V.int)) := upd_same
          generalize upd H3 b (.lst [.int 2, .int 1]) = H4 at s4 hb4 ⊢
          refine ⟨ys, s4 _ _ hD, small' (by omega), ys ++ [.ref b], sPut (s3.trans s4) nD, upd_same, ?_, fun z => ?_⟩
          · rw [List.replicate_succ']
            refine LL.snoc (LL.keepM ly fun c cs hm e => ?_) (by rw [upd_ne Db.symm]; exact hb4)
            have h1 : c ≠ D := fun z => nm (by rw [← z]; exact hm)
            rw [upd_ne h1]
            exact s4 _ _ e
          · rcases List.mem_append.mp z with h | h
            · exact nm h
            · exact Db (V.ref.inj (List.mem_singleton.mp h))
        rintro H3 ⟨ys, s3, hD, ly, nm⟩
        have eyl : ys.length = (4 - (xs.length : Int) + cellAt ns 8 / 3 % 3).toNat := by rw [ly.length, List.length_replicate]
        have hT3 := s3 _ _ hT
        refine ⟨T, D, xs, ys, rfl, rfl, hT3, hD, small (by omega), fun T2 nT2 => ?_⟩
        have s4 : Same H3 (upd H3 T2 (.lst (xs ++ ys))) := sNew nT2
        have hT4 : upd H3 T2 (.lst (xs ++ ys)) T2 = some (.lst (xs ++ ys)) := upd_same
        have uT2 : u ≠ T2 := ne_of_none (s3 _ _ hu) nT2
        generalize upd H3 T2 (.lst (xs ++ ys)) = H4 at s4 hT4 ⊢
        have s24 := s3.trans s4
        have hu4 := s24 _ _ hu
        have key : ∀ {c : Addr} {l : List Int}, H4 c = some (.lst (l.map V.int)) → c ≠ u := fun {c l} e z => by
          rw [z, hu4] at e
          have e := HO.lst.inj (Option.some.inj e)
          cases l with
          | nil => cases e
          | cons x r => injection e with e _; cases e
        have keep : ∀ {c : Addr} {l : List V} {o : HO}, c ≠ u → H4 c = some (.lst l) → upd H4 u o c = some (.lst l) := fun n e => by rw [upd_ne n]; exact e
        have lcat : ∀ {xs ys : List V} {ds es : List (List Int)}, LL H4 xs ds → LL H4 ys es → LL H4 (xs ++ ys) (ds ++ es) := fun {xs ys ds es} h h' => by
          induction h with
          | nil => exact h'
          | cons r _ ih => exact Paired.cons r ih
        have l4 := lcat (lT.same s24) (ly.same s4)
        refine ⟨_, rfl, u, _, (1 : Int), 1, rfl, rfl, hu4, by rfl, ?_⟩
        refine ⟨T2, xs ++ ys, _, some 2, rfl, keep uT2.symm hT4, Paired.mapP l4 (fun x c ⟨z, e, hz⟩ => ⟨z, e, keep (key hz) hz⟩), ?_, keep (key (s24 _ _ ht)) (s24 _ _ ht), ?_, .inr (.inr ⟨rfl, ?_⟩)⟩
        · rw [List.length_append, List.length_replicate]
          omega
        · rw [upd_same]
          rfl
        · rw [List.length_append, List.length_replicate]
          omega
      · by_cases hb : isBarB d = true
        · refine ⟨T, xs, ds, none, rfl, hT, lT, by omega, ht, ?_, .inl ⟨rfl, ⟨by omega, good hb⟩⟩⟩
          rw [hu, hb]
          rfl
        · have hb' : isBarB d = false := by simpa using hb
          refine ⟨T, xs, ds, some 0, rfl, hT, lT, by omega, ht, ?_, .inr (.inl ⟨rfl, l3, d, List.mem_of_getElem? hd, hb'⟩)⟩
          rw [hu, hb']
          rfl
    clear good hd hx l3 l1 lT ex hT hS2 hS h63 ds xs nT T
    rintro σ' H3 ⟨T, xs, ds, o, rfl, hT, lT, l3, ht, hu, tc⟩
    have ex := lT.length
    refine ⟨10, rfl, by decide, by decide, for_range (lo := 0) (fun _ σ H' => ∃ v7 v8 : Option V, σ = [some (.ref a), some (.ref u), some (.int m), some (.ref T), none, some (.int (p : Nat)), some (.ref t), v7, v8, none] ∧ Same H3 H') ⟨none, none, rfl, Same.refl _⟩ ?_ ?_⟩
    · rintro i σ H4 hi ⟨v7, v8, rfl, s4⟩
      have i9 : i < 10 := hi
      rw [Int.zero_add]
      refine ⟨_, rfl, _, rfl, _, _, rfl, rfl, .inr ⟨_, rfl, ?_⟩⟩
      obtain ⟨j, ej, ev⟩ : ∃ j : Nat, (if decide ((4 : Int) < (i : Int)) = true then (1 : Int) else 0) = (j : Int) ∧ ([.str (dueB (isBarB d)), .str (dueT o)] : List V)[j]? = some (.str (if 4 < (i : Int) then dueT o else dueB (isBarB d))) := by
        by_cases h : (4 : Int) < (i : Int)
        · exact ⟨1, by rw [if_pos (decide_eq_true h)]; rfl, by rw [if_pos h]; rfl⟩
        · exact ⟨0, by rw [if_neg (by rw [decide_eq_false h]; exact Bool.false_ne_true)]; rfl, by rw [if_neg h]; rfl⟩
      refine ⟨u, _, (j : Int), _, rfl, congrArg V.int ej, SqL.of (s4 _ _ hu), atI_nat ev, ?_⟩
      -- wanted
      refine ⟨fun σ' H' => σ' = [some (.ref a), some (.ref u), some (.int m), some (.ref T), none, some (.int (p : Nat)), some (.ref t), some (.int (i : Nat)), some (.str (wordT (i : Int) (isBarB d) o)), none] ∧ H' = H4, ?_, ?_⟩
      · rw [word_due]
        have bite : (if 4 < (i : Int) then dueT o else dueB (isBarB d)) = ("done" : Str) → ((i : Int) = 1 ∨ (i : Int) = 8) → [some (V.ref a), some (.ref u), some (.int m), some (.ref T), none, some (.int (p : Nat)), some (.ref t), some (.int (i : Nat)), some (.str ("bite" : Str)), none] =
            [some (V.ref a), some (.ref u), some (.int m), some (.ref T), none, some (.int (p : Nat)), some (.ref t), some (.int (i : Nat)), some (.str (if (if 4 < (i : Int) then dueT o else dueB (isBarB d)) = ("done" : Str) ∧ ((i : Int) = 1 ∨ (i : Int) = 8) then ("bite" : Str) else (if 4 < (i : Int) then dueT o else dueB (isBarB d)))), none] := fun h1 h2 => by rw [if_pos (⟨h1, h2⟩ : _ ∧ _)]
        have same : ¬ ((if 4 < (i : Int) then dueT o else dueB (isBarB d)) = ("done" : Str) ∧ ((i : Int) = 1 ∨ (i : Int) = 8)) → [some (V.ref a), some (.ref u), some (.int m), some (.ref T), none, some (.int (p : Nat)), some (.ref t), some (.int (i : Nat)), some (.str (if 4 < (i : Int) then dueT o else dueB (isBarB d))), none] =
            [some (V.ref a), some (.ref u), some (.int m), some (.ref T), none, some (.int (p : Nat)), some (.ref t), some (.int (i : Nat)), some (.str (if (if 4 < (i : Int) then dueT o else dueB (isBarB d)) = ("done" : Str) ∧ ((i : Int) = 1 ∨ (i : Int) = 8) then ("bite" : Str) else (if 4 < (i : Int) then dueT o else dueB (isBarB d)))), none] := fun h => by rw [if_neg h]
        refine ⟨_, rfl, rfl, _, rfl, d2_ (fun h => ?_) (fun h => iteF ⟨same fun z => h (congrArg V.str z.1), rfl⟩)⟩
        have h' := V.str.inj h
        refine ⟨_, rfl, rfl, _, rfl, d2_ (fun h1 => iteT ⟨bite h' (.inl (int_eq h1)), rfl⟩) (fun h1 => ?_)⟩
        refine ⟨_, rfl, rfl, _, rfl, d2_ (fun h8 => ⟨bite h' (.inr (int_eq h8)), rfl⟩) (fun h8 => ⟨same fun z => ?_, rfl⟩)⟩
        rcases z.2 with z | z
        · exact h1 (congrArg V.int z)
        · exact h8 (congrArg V.int z)
      rintro σ' H5 ⟨rfl, rfl⟩
      refine ⟨_, rfl, _, rfl, t, _, rfl, .inl (SqL.of (s4 _ _ ht)), fun b nb => ?_⟩
      have s5 : Same H5 (upd H5 b (.lst (d.map V.int))) := sNew nb
      have hb5 : upd H5 b (.lst (d.map V.int)) b = some (.lst (d.map V.int)) := upd_same
      generalize upd H5 b (.lst (d.map V.int)) = H6 at s5 hb5 ⊢
      have s46 := s4.trans s5
      refine ⟨_, rfl, T, rfl, ⟨_, SqL.of (s46 _ _ hT)⟩, fun G nG => ?_⟩
      refine copy_loop (T := T) (xs := xs) (ds := ds) (by show 9 < 10; omega) (SqL.of (s46 _ _ hT)) (lT.same s46) (by omega) nG fun H7 ys s7 hG lG nw nm => ?_
      refine ⟨(i : Int), b, G, d, ys, ds, o, rfl, SqL.of (s7 _ _ hb5), hG, lG, tc, by omega, by omega, fun H8 s8 => ?_⟩
      refine ⟨_, rfl, rfl, _, rfl, ?_⟩
      rw [decide_eq_true rfl]
      exact iteF ⟨_, _, rfl, s46.trans (s7.trans s8)⟩
    · rintro σ H4 ⟨v7, v8, rfl, s4⟩
      exact q _
end
theorem all_mk {l : PySem.W.OpenLaw} {w : World} {K : PySem.W.Frag} {h : Heap} {mg : Str → Option Value} {fa f0 f1 f2 f3 f4 f5 f6 f7 f8 f9 f10 f11 f12 f13 f14 f15 f16 f17 f18 f19 f20 f21 f22 f23 f24 f25 : Addr} (X : K.In h) (G : h.Ns mainGlobals mg) (hfa : mg "law" = some (.ref fa))
    {od0 an0 od1 an1 od2 an2 od3 an3 od4 an4 od5 an5 od6 an6 od7 an7 od8 an8 od9 an9 od10 an10 od11 an11 od12 an12 od13 an13 od14 an14 od15 an15 od16 an16 od17 an17 od18 an18 od19 an19 od20 an20 od21 an21 od22 an22 od23 an23 od24 an24 od25 an25 : Option Addr} {sl0 sl1 sl2 sl3 sl4 sl5 sl6 sl7 sl8 sl9 sl10 sl11 sl12 sl13 sl14 sl15 sl16 sl17 sl18 sl19 sl20 sl21 sl22 sl23 sl24 sl25 : Array (Option Value)} {oc0 kV0 dc0 pm0 cd0 ct0 oc1 kV1 dc1 pm1 cd1 ct1 oc2 kV2 dc2 pm2 cd2 ct2 oc3 kV3 dc3 pm3 cd3 ct3 oc4 kV4 dc4 pm4 cd4 ct4 oc5 kV5 dc5 pm5 cd5 ct5 oc6 kV6 dc6 pm6 cd6 ct6 oc7 kV7 dc7 pm7 cd7 ct7 oc8 kV8 dc8 pm8 cd8 ct8 oc9 kV9 dc9 pm9 cd9 ct9 oc10 kV10 dc10 pm10 cd10 ct10 oc11 kV11 dc11 pm11 cd11 ct11 oc12 kV12 dc12 pm12 cd12 ct12 oc13 kV13 dc13 pm13 cd13 ct13 oc14 kV14 dc14 pm14 cd14 ct14 oc15 kV15 dc15 pm15 cd15 ct15 oc16 kV16 dc16 pm16 cd16 ct16 oc17 kV17 dc17 pm17 cd17 ct17 oc18 kV18 dc18 pm18 cd18 ct18 oc19 kV19 dc19 pm19 cd19 ct19 oc20 kV20 dc20 pm20 cd20 ct20 oc21 kV21 dc21 pm21 cd21 ct21 oc22 kV22 dc22 pm22 cd22 ct22 oc23 kV23 dc23 pm23 cd23 ct23 oc24 kV24 dc24 pm24 cd24 ct24 oc25 kV25 dc25 pm25 cd25 ct25 : Value}
    (a0 : PySem.W.nsIn K mainGlobals "is_bar" = some (some (.ref f0))) (l0 : K.lookup f0 = some ⟨oc0, od0, .func (PySem.W.fnOf "is_bar" "is_bar" (defArgs s_is_bar) (defBody s_is_bar) (defScope s_is_bar) .none kV0 dc0 pm0 an0 cd0 ct0), sl0⟩) (c0 : PySem.W.codeIn K cd0 "is_bar" = true) (k0 : PySem.W.keepIn K (.ref f0) = true)
    (a1 : PySem.W.nsIn K mainGlobals "asked_bar" = some (some (.ref f1))) (l1 : K.lookup f1 = some ⟨oc1, od1, .func (PySem.W.fnOf "asked_bar" "asked_bar" (defArgs s_asked_bar) (defBody s_asked_bar) (defScope s_asked_bar) .none kV1 dc1 pm1 an1 cd1 ct1), sl1⟩) (c1 : PySem.W.codeIn K cd1 "asked_bar" = true) (k1 : PySem.W.keepIn K (.ref f1) = true)
    (a2 : PySem.W.nsIn K mainGlobals "bites_of" = some (some (.ref f2))) (l2 : K.lookup f2 = some ⟨oc2, od2, .func (PySem.W.fnOf "bites_of" "bites_of" (defArgs s_bites_of) (defBody s_bites_of) (defScope s_bites_of) .none kV2 dc2 pm2 an2 cd2 ct2), sl2⟩) (c2 : PySem.W.codeIn K cd2 "bites_of" = true) (k2 : PySem.W.keepIn K (.ref f2) = true)
    (a3 : PySem.W.nsIn K mainGlobals "bites" = some (some (.ref f3))) (l3 : K.lookup f3 = some ⟨oc3, od3, .func (PySem.W.fnOf "bites" "bites" (defArgs s_bites) (defBody s_bites) (defScope s_bites) .none kV3 dc3 pm3 an3 cd3 ct3), sl3⟩) (c3 : PySem.W.codeIn K cd3 "bites" = true) (k3 : PySem.W.keepIn K (.ref f3) = true)
    (a4 : PySem.W.nsIn K mainGlobals "behind" = some (some (.ref f4))) (l4 : K.lookup f4 = some ⟨oc4, od4, .func (PySem.W.fnOf "behind" "behind" (defArgs s_behind) (defBody s_behind) (defScope s_behind) .none kV4 dc4 pm4 an4 cd4 ct4), sl4⟩) (c4 : PySem.W.codeIn K cd4 "behind" = true) (k4 : PySem.W.keepIn K (.ref f4) = true)
    (a5 : PySem.W.nsIn K mainGlobals "bitten" = some (some (.ref f5))) (l5 : K.lookup f5 = some ⟨oc5, od5, .func (PySem.W.fnOf "bitten" "bitten" (defArgs s_bitten) (defBody s_bitten) (defScope s_bitten) .none kV5 dc5 pm5 an5 cd5 ct5), sl5⟩) (c5 : PySem.W.codeIn K cd5 "bitten" = true) (k5 : PySem.W.keepIn K (.ref f5) = true)
    (a6 : PySem.W.nsIn K mainGlobals "turned" = some (some (.ref f6))) (l6 : K.lookup f6 = some ⟨oc6, od6, .func (PySem.W.fnOf "turned" "turned" (defArgs s_turned) (defBody s_turned) (defScope s_turned) .none kV6 dc6 pm6 an6 cd6 ct6), sl6⟩) (c6 : PySem.W.codeIn K cd6 "turned" = true) (k6 : PySem.W.keepIn K (.ref f6) = true)
    (a7 : PySem.W.nsIn K mainGlobals "added" = some (some (.ref f7))) (l7 : K.lookup f7 = some ⟨oc7, od7, .func (PySem.W.fnOf "added" "added" (defArgs s_added) (defBody s_added) (defScope s_added) .none kV7 dc7 pm7 an7 cd7 ct7), sl7⟩) (c7 : PySem.W.codeIn K cd7 "added" = true) (k7 : PySem.W.keepIn K (.ref f7) = true)
    (a8 : PySem.W.nsIn K mainGlobals "worth_of" = some (some (.ref f8))) (l8 : K.lookup f8 = some ⟨oc8, od8, .func (PySem.W.fnOf "worth_of" "worth_of" (defArgs s_worth_of) (defBody s_worth_of) (defScope s_worth_of) .none kV8 dc8 pm8 an8 cd8 ct8), sl8⟩) (c8 : PySem.W.codeIn K cd8 "worth_of" = true) (k8 : PySem.W.keepIn K (.ref f8) = true)
    (a9 : PySem.W.nsIn K mainGlobals "worth" = some (some (.ref f9))) (l9 : K.lookup f9 = some ⟨oc9, od9, .func (PySem.W.fnOf "worth" "worth" (defArgs s_worth) (defBody s_worth) (defScope s_worth) .none kV9 dc9 pm9 an9 cd9 ct9), sl9⟩) (c9 : PySem.W.codeIn K cd9 "worth" = true) (k9 : PySem.W.keepIn K (.ref f9) = true)
    (a10 : PySem.W.nsIn K mainGlobals "hook_worth" = some (some (.ref f10))) (l10 : K.lookup f10 = some ⟨oc10, od10, .func (PySem.W.fnOf "hook_worth" "hook_worth" (defArgs s_hook_worth) (defBody s_hook_worth) (defScope s_hook_worth) .none kV10 dc10 pm10 an10 cd10 ct10), sl10⟩) (c10 : PySem.W.codeIn K cd10 "hook_worth" = true) (k10 : PySem.W.keepIn K (.ref f10) = true)
    (a11 : PySem.W.nsIn K mainGlobals "asked_table" = some (some (.ref f11))) (l11 : K.lookup f11 = some ⟨oc11, od11, .func (PySem.W.fnOf "asked_table" "asked_table" (defArgs s_asked_table) (defBody s_asked_table) (defScope s_asked_table) .none kV11 dc11 pm11 an11 cd11 ct11), sl11⟩) (c11 : PySem.W.codeIn K cd11 "asked_table" = true) (k11 : PySem.W.keepIn K (.ref f11) = true)
    (a12 : PySem.W.nsIn K mainGlobals "together_of" = some (some (.ref f12))) (l12 : K.lookup f12 = some ⟨oc12, od12, .func (PySem.W.fnOf "together_of" "together_of" (defArgs s_together_of) (defBody s_together_of) (defScope s_together_of) .none kV12 dc12 pm12 an12 cd12 ct12), sl12⟩) (c12 : PySem.W.codeIn K cd12 "together_of" = true) (k12 : PySem.W.keepIn K (.ref f12) = true)
    (a13 : PySem.W.nsIn K mainGlobals "together" = some (some (.ref f13))) (l13 : K.lookup f13 = some ⟨oc13, od13, .func (PySem.W.fnOf "together" "together" (defArgs s_together) (defBody s_together) (defScope s_together) .none kV13 dc13 pm13 an13 cd13 ct13), sl13⟩) (c13 : PySem.W.codeIn K cd13 "together" = true) (k13 : PySem.W.keepIn K (.ref f13) = true)
    (a14 : PySem.W.nsIn K mainGlobals "wins" = some (some (.ref f14))) (l14 : K.lookup f14 = some ⟨oc14, od14, .func (PySem.W.fnOf "wins" "wins" (defArgs s_wins) (defBody s_wins) (defScope s_wins) .none kV14 dc14 pm14 an14 cd14 ct14), sl14⟩) (c14 : PySem.W.codeIn K cd14 "wins" = true) (k14 : PySem.W.keepIn K (.ref f14) = true)
    (a15 : PySem.W.nsIn K mainGlobals "winning" = some (some (.ref f15))) (l15 : K.lookup f15 = some ⟨oc15, od15, .func (PySem.W.fnOf "winning" "winning" (defArgs s_winning) (defBody s_winning) (defScope s_winning) .none kV15 dc15 pm15 an15 cd15 ct15), sl15⟩) (c15 : PySem.W.codeIn K cd15 "winning" = true) (k15 : PySem.W.keepIn K (.ref f15) = true)
    (a16 : PySem.W.nsIn K mainGlobals "moved" = some (some (.ref f16))) (l16 : K.lookup f16 = some ⟨oc16, od16, .func (PySem.W.fnOf "moved" "moved" (defArgs s_moved) (defBody s_moved) (defScope s_moved) .none kV16 dc16 pm16 an16 cd16 ct16), sl16⟩) (c16 : PySem.W.codeIn K cd16 "moved" = true) (k16 : PySem.W.keepIn K (.ref f16) = true)
    (a17 : PySem.W.nsIn K mainGlobals "shown" = some (some (.ref f17))) (l17 : K.lookup f17 = some ⟨oc17, od17, .func (PySem.W.fnOf "shown" "shown" (defArgs s_shown) (defBody s_shown) (defScope s_shown) .none kV17 dc17 pm17 an17 cd17 ct17), sl17⟩) (c17 : PySem.W.codeIn K cd17 "shown" = true) (k17 : PySem.W.keepIn K (.ref f17) = true)
    (a18 : PySem.W.nsIn K mainGlobals "_law_cell_at" = some (some (.ref f18))) (l18 : K.lookup f18 = some ⟨oc18, od18, .func (PySem.W.fnOf "_law_cell_at" "_law_cell_at" (defArgs s_law_cell_at) (defBody s_law_cell_at) (defScope s_law_cell_at) .none kV18 dc18 pm18 an18 cd18 ct18), sl18⟩) (c18 : PySem.W.codeIn K cd18 "_law_cell_at" = true) (k18 : PySem.W.keepIn K (.ref f18) = true)
    (a19 : PySem.W.nsIn K mainGlobals "_law_word_of" = some (some (.ref f19))) (l19 : K.lookup f19 = some ⟨oc19, od19, .func (PySem.W.fnOf "_law_word_of" "_law_word_of" (defArgs s_law_word_of) (defBody s_law_word_of) (defScope s_law_word_of) .none kV19 dc19 pm19 an19 cd19 ct19), sl19⟩) (c19 : PySem.W.codeIn K cd19 "_law_word_of" = true) (k19 : PySem.W.keepIn K (.ref f19) = true)
    (a20 : PySem.W.nsIn K mainGlobals "_law_bar_by" = some (some (.ref f20))) (l20 : K.lookup f20 = some ⟨oc20, od20, .func (PySem.W.fnOf "_law_bar_by" "_law_bar_by" (defArgs s_law_bar_by) (defBody s_law_bar_by) (defScope s_law_bar_by) .none kV20 dc20 pm20 an20 cd20 ct20), sl20⟩) (c20 : PySem.W.codeIn K cd20 "_law_bar_by" = true) (k20 : PySem.W.keepIn K (.ref f20) = true)
    (a21 : PySem.W.nsIn K mainGlobals "_law_of_bar" = some (some (.ref f21))) (l21 : K.lookup f21 = some ⟨oc21, od21, .func (PySem.W.fnOf "_law_of_bar" "_law_of_bar" (defArgs s_law_of_bar) (defBody s_law_of_bar) (defScope s_law_of_bar) .none kV21 dc21 pm21 an21 cd21 ct21), sl21⟩) (c21 : PySem.W.codeIn K cd21 "_law_of_bar" = true) (k21 : PySem.W.keepIn K (.ref f21) = true)
    (a22 : PySem.W.nsIn K mainGlobals "_law_of_table" = some (some (.ref f22))) (l22 : K.lookup f22 = some ⟨oc22, od22, .func (PySem.W.fnOf "_law_of_table" "_law_of_table" (defArgs s_law_of_table) (defBody s_law_of_table) (defScope s_law_of_table) .none kV22 dc22 pm22 an22 cd22 ct22), sl22⟩) (c22 : PySem.W.codeIn K cd22 "_law_of_table" = true) (k22 : PySem.W.keepIn K (.ref f22) = true)
    (a23 : PySem.W.nsIn K mainGlobals "_law_tried" = some (some (.ref f23))) (l23 : K.lookup f23 = some ⟨oc23, od23, .func (PySem.W.fnOf "_law_tried" "_law_tried" (defArgs s_law_tried) (defBody s_law_tried) (defScope s_law_tried) .none kV23 dc23 pm23 an23 cd23 ct23), sl23⟩) (c23 : PySem.W.codeIn K cd23 "_law_tried" = true) (k23 : PySem.W.keepIn K (.ref f23) = true)
    (a24 : PySem.W.nsIn K mainGlobals "_law_spoilt" = some (some (.ref f24))) (l24 : K.lookup f24 = some ⟨oc24, od24, .func (PySem.W.fnOf "_law_spoilt" "_law_spoilt" (defArgs s_law_spoilt) (defBody s_law_spoilt) (defScope s_law_spoilt) .none kV24 dc24 pm24 an24 cd24 ct24), sl24⟩) (c24 : PySem.W.codeIn K cd24 "_law_spoilt" = true) (k24 : PySem.W.keepIn K (.ref f24) = true)
    (a25 : PySem.W.nsIn K mainGlobals "law" = some (some (.ref f25))) (l25 : K.lookup f25 = some ⟨oc25, od25, .func (PySem.W.fnOf "law" "law" (defArgs s_law) (defBody s_law) (defScope s_law) .none kV25 dc25 pm25 an25 cd25 ct25), sl25⟩) (c25 : PySem.W.codeIn K cd25 "law" = true) (k25 : PySem.W.keepIn K (.ref f25) = true)
    (z_len : PySem.W.nsIn K mainGlobals "len" = some none)
    (z_range : PySem.W.nsIn K mainGlobals "range" = some none)
    (z_int : PySem.W.nsIn K mainGlobals "int" = some none)
    (z_list : PySem.W.nsIn K mainGlobals "list" = some none)
    (z_min : PySem.W.nsIn K mainGlobals "min" = some none)
    (z_tuple : PySem.W.nsIn K mainGlobals "tuple" = some none)
    (z_enumerate : PySem.W.nsIn K mainGlobals "enumerate" = some none)
    (z_str : PySem.W.nsIn K mainGlobals "str" = some none)
    (z_isinstance : PySem.W.nsIn K mainGlobals "isinstance" = some none)
    (z_ValueError : PySem.W.nsIn K mainGlobals "ValueError" = some none)
    (z_sorted : PySem.W.nsIn K mainGlobals "sorted" = some none)
    {t_MOST_ROWS : Tok} (y_MOST_ROWS : PySem.W.nsIn K mainGlobals "MOST_ROWS" = some (some (.int 5 t_MOST_ROWS)))
    {t_MOST_PIECES : Tok} (y_MOST_PIECES : PySem.W.nsIn K mainGlobals "MOST_PIECES" = some (some (.int 5 t_MOST_PIECES)))
    {t_MOST : Tok} (y_MOST : PySem.W.nsIn K mainGlobals "MOST" = some (some (.int 3 t_MOST)))
    {e0 e1 e2 e3 eB : Addr} (ce_a : PySem.W.nsIn K mainGlobals "BiteError" = some (some (.ref eB))) (cB_b : PySem.W.subIn K (.ref eB) (.type "BaseException") = some true) (cB_d : PySem.W.hasDictIn K eB = true) (cB_t : PySem.W.typeIn K (.ref eB) = some (.type "type"))
    (cs_n : PySem.W.specialIn K (.builtin "object.__class__") "__get__" = some (some (.builtin "getset_descriptor.__get__"))) (cs_t : PySem.W.takesIn K (.builtin "object.__class__") = some true)
    (ca_0 : PySem.W.nsIn K mainGlobals "NoBar" = some (some (.ref e0))) (cx_0 : PySem.W.excIn K e0 [.type "ValueError", .type "Exception", .type "BaseException", .type "object"] "ValueError.__new__" = true) (ck_0 : PySem.W.keepIn K (.ref e0) = true)
    (cb_0 : PySem.W.subIn K (.ref e0) (.type "BaseException") = some true) (ct_0 : PySem.W.typeIn K (.ref e0) = some (.type "type")) (cm_0 : PySem.W.subIn K (.ref e0) (.ref eB) = some true) (cv_0 : PySem.W.kitOne K (.ref e0) (.type "ValueError") = some true)
    (ch_0 : PySem.W.findIn K (.ref e0) "__getattribute__" = some (some (.builtin "BaseException.__getattribute__"))) (cg_0 : PySem.W.findIn K (.ref e0) "__getattr__" = some none) (cy_0 : PySem.W.hasDictIn K e0 = true)
    (cd_0 : PySem.W.findIn K (.ref e0) "__class__" = some (some (.builtin "object.__class__"))) (cj_0 : PySem.W.mroIn K e0 (.type "object") = some true)
    (ca_1 : PySem.W.nsIn K mainGlobals "NoBite" = some (some (.ref e1))) (cx_1 : PySem.W.excIn K e1 [.type "ValueError", .type "Exception", .type "BaseException", .type "object"] "ValueError.__new__" = true) (ck_1 : PySem.W.keepIn K (.ref e1) = true)
    (cb_1 : PySem.W.subIn K (.ref e1) (.type "BaseException") = some true) (ct_1 : PySem.W.typeIn K (.ref e1) = some (.type "type")) (cm_1 : PySem.W.subIn K (.ref e1) (.ref eB) = some true) (cv_1 : PySem.W.kitOne K (.ref e1) (.type "ValueError") = some true)
    (ch_1 : PySem.W.findIn K (.ref e1) "__getattribute__" = some (some (.builtin "BaseException.__getattribute__"))) (cg_1 : PySem.W.findIn K (.ref e1) "__getattr__" = some none) (cy_1 : PySem.W.hasDictIn K e1 = true)
    (cd_1 : PySem.W.findIn K (.ref e1) "__class__" = some (some (.builtin "object.__class__"))) (cj_1 : PySem.W.mroIn K e1 (.type "object") = some true)
    (ca_2 : PySem.W.nsIn K mainGlobals "NoTable" = some (some (.ref e2))) (cx_2 : PySem.W.excIn K e2 [.type "ValueError", .type "Exception", .type "BaseException", .type "object"] "ValueError.__new__" = true) (ck_2 : PySem.W.keepIn K (.ref e2) = true)
    (cb_2 : PySem.W.subIn K (.ref e2) (.type "BaseException") = some true) (ct_2 : PySem.W.typeIn K (.ref e2) = some (.type "type")) (cm_2 : PySem.W.subIn K (.ref e2) (.ref eB) = some true) (cv_2 : PySem.W.kitOne K (.ref e2) (.type "ValueError") = some true)
    (ch_2 : PySem.W.findIn K (.ref e2) "__getattribute__" = some (some (.builtin "BaseException.__getattribute__"))) (cg_2 : PySem.W.findIn K (.ref e2) "__getattr__" = some none) (cy_2 : PySem.W.hasDictIn K e2 = true)
    (cd_2 : PySem.W.findIn K (.ref e2) "__class__" = some (some (.builtin "object.__class__"))) (cj_2 : PySem.W.mroIn K e2 (.type "object") = some true)
    (ca_3 : PySem.W.nsIn K mainGlobals "NoNote" = some (some (.ref e3))) (cx_3 : PySem.W.excIn K e3 [.type "ValueError", .type "Exception", .type "BaseException", .type "object"] "ValueError.__new__" = true) (ck_3 : PySem.W.keepIn K (.ref e3) = true)
    (cb_3 : PySem.W.subIn K (.ref e3) (.type "BaseException") = some true) (ct_3 : PySem.W.typeIn K (.ref e3) = some (.type "type")) (cm_3 : PySem.W.subIn K (.ref e3) (.ref eB) = some true) (cv_3 : PySem.W.kitOne K (.ref e3) (.type "ValueError") = some true)
    (ch_3 : PySem.W.findIn K (.ref e3) "__getattribute__" = some (some (.builtin "BaseException.__getattribute__"))) (cg_3 : PySem.W.findIn K (.ref e3) "__getattr__" = some none) (cy_3 : PySem.W.hasDictIn K e3 = true)
    (cd_3 : PySem.W.findIn K (.ref e3) "__class__" = some (some (.builtin "object.__class__"))) (cj_3 : PySem.W.mroIn K e3 (.type "object") = some true)
    (ck_00 : PySem.W.kitOne K (.ref e0) (.ref e0) = some true) (ck_01 : PySem.W.kitOne K (.ref e0) (.ref e1) = some false) (ck_02 : PySem.W.kitOne K (.ref e0) (.ref e2) = some false) (ck_03 : PySem.W.kitOne K (.ref e0) (.ref e3) = some false)
    (ck_10 : PySem.W.kitOne K (.ref e1) (.ref e0) = some false) (ck_11 : PySem.W.kitOne K (.ref e1) (.ref e1) = some true) (ck_12 : PySem.W.kitOne K (.ref e1) (.ref e2) = some false) (ck_13 : PySem.W.kitOne K (.ref e1) (.ref e3) = some false)
    (ck_20 : PySem.W.kitOne K (.ref e2) (.ref e0) = some false) (ck_21 : PySem.W.kitOne K (.ref e2) (.ref e1) = some false) (ck_22 : PySem.W.kitOne K (.ref e2) (.ref e2) = some true) (ck_23 : PySem.W.kitOne K (.ref e2) (.ref e3) = some false)
    (ck_30 : PySem.W.kitOne K (.ref e3) (.ref e0) = some false) (ck_31 : PySem.W.kitOne K (.ref e3) (.ref e1) = some false) (ck_32 : PySem.W.kitOne K (.ref e3) (.ref e2) = some false) (ck_33 : PySem.W.kitOne K (.ref e3) (.ref e3) = some true)
    : ∃ fd : FuncData, (∀ (s : Shared) (v : Value), BindsTo s fd ⟨[v], []⟩ [("script", v)]) ∧ ∀ base : Heap, K.In base → base.Ns mainGlobals mg → FnOk l.prog w K mg base CX0 60 fa fd ["script"] (sp_law K) := by
  have e := hfa.symm.trans (PySem.W.mg_of X G a25)
  cases e
  have m_len := PySem.W.mg_none_of X G z_len
  have m_range := PySem.W.mg_none_of X G z_range
  have m_int := PySem.W.mg_none_of X G z_int
  have m_list := PySem.W.mg_none_of X G z_list
  have m_min := PySem.W.mg_none_of X G z_min
  have m_tuple := PySem.W.mg_none_of X G z_tuple
  have m_enumerate := PySem.W.mg_none_of X G z_enumerate
  have m_str := PySem.W.mg_none_of X G z_str
  have m_isinstance := PySem.W.mg_none_of X G z_isinstance
  have m_ValueError := PySem.W.mg_none_of X G z_ValueError
  have m_sorted := PySem.W.mg_none_of X G z_sorted
  have g_MOST_ROWS := PySem.W.mg_of X G y_MOST_ROWS
  have g_MOST_PIECES := PySem.W.mg_of X G y_MOST_PIECES
  have g_MOST := PySem.W.mg_of X G y_MOST
  have T_kinds : Kinds K mg (fun j => match j with | 0 => e0 | 1 => e1 | 2 => e2 | _ => e3) eB :=
    { gB := PySem.W.mg_of X G ce_a, o0 := ⟨PySem.W.mg_of X G ca_0, cx_0, ck_0, cb_0, ct_0, PySem.W.exm_ref cB_b cB_d cB_t cm_0⟩, o1 := ⟨PySem.W.mg_of X G ca_1, cx_1, ck_1, cb_1, ct_1, PySem.W.exm_ref cB_b cB_d cB_t cm_1⟩, o2 := ⟨PySem.W.mg_of X G ca_2, cx_2, ck_2, cb_2, ct_2, PySem.W.exm_ref cB_b cB_d cB_t cm_2⟩, o3 := ⟨PySem.W.mg_of X G ca_3, cx_3, ck_3, cb_3, ct_3, PySem.W.exm_ref cB_b cB_d cB_t cm_3⟩,
      k := fun i hi => match i, hi with
        | 0, _ => ⟨⟨ch_0, cg_0, cb_0, cy_0, cd_0, cs_n, cs_t, cj_0⟩, cv_0, fun j hj => match j, hj with | 0, _ => ck_00 | 1, _ => ck_01 | 2, _ => ck_02 | 3, _ => ck_03 | _ + 4, h => absurd h (by omega)⟩
        | 1, _ => ⟨⟨ch_1, cg_1, cb_1, cy_1, cd_1, cs_n, cs_t, cj_1⟩, cv_1, fun j hj => match j, hj with | 0, _ => ck_10 | 1, _ => ck_11 | 2, _ => ck_12 | 3, _ => ck_13 | _ + 4, h => absurd h (by omega)⟩
        | 2, _ => ⟨⟨ch_2, cg_2, cb_2, cy_2, cd_2, cs_n, cs_t, cj_2⟩, cv_2, fun j hj => match j, hj with | 0, _ => ck_20 | 1, _ => ck_21 | 2, _ => ck_22 | 3, _ => ck_23 | _ + 4, h => absurd h (by omega)⟩
        | 3, _ => ⟨⟨ch_3, cg_3, cb_3, cy_3, cd_3, cs_n, cs_t, cj_3⟩, cv_3, fun j hj => match j, hj with | 0, _ => ck_30 | 1, _ => ck_31 | 2, _ => ck_32 | 3, _ => ck_33 | _ + 4, h => absurd h (by omega)⟩
        | _ + 4, h => absurd h (by omega) }
  have F0 := fun_mk (st := s_is_bar) l0 c0 k0
  have b0 := F0.binds (ps := ["bar"]) fun _ _ _ _ _ _ us hl => match us, hl with | [_], _ => rfl
  have F1 := fun_mk (st := s_asked_bar) l1 c1 k1
  have b1 := F1.binds (ps := ["bar"]) fun _ _ _ _ _ _ us hl => match us, hl with | [_], _ => rfl
  have F2 := fun_mk (st := s_bites_of) l2 c2 k2
  have b2 := F2.binds (ps := ["bar"]) fun _ _ _ _ _ _ us hl => match us, hl with | [_], _ => rfl
  have F3 := fun_mk (st := s_bites) l3 c3 k3
  have b3 := F3.binds (ps := ["bar"]) fun _ _ _ _ _ _ us hl => match us, hl with | [_], _ => rfl
  have F4 := fun_mk (st := s_behind) l4 c4 k4
  have b4 := F4.binds (ps := ["bar", "row", "column"]) fun _ _ _ _ _ _ us hl => match us, hl with | [_, _, _], _ => rfl
  have F5 := fun_mk (st := s_bitten) l5 c5 k5
  have b5 := F5.binds (ps := ["bar", "row", "column"]) fun _ _ _ _ _ _ us hl => match us, hl with | [_, _, _], _ => rfl
  have F6 := fun_mk (st := s_turned) l6 c6 k6
  have b6 := F6.binds (ps := ["bar"]) fun _ _ _ _ _ _ us hl => match us, hl with | [_], _ => rfl
  have F7 := fun_mk (st := s_added) l7 c7 k7
  have b7 := F7.binds (ps := ["one", "other"]) fun _ _ _ _ _ _ us hl => match us, hl with | [_, _], _ => rfl
  have F8 := fun_mk (st := s_worth_of) l8 c8 k8
  have b8 := F8.binds (ps := ["bar", "known"]) fun _ _ _ _ _ _ us hl => match us, hl with | [_, _], _ => rfl
  have F9 := fun_mk (st := s_worth) l9 c9 k9
  have b9 := F9.binds (ps := ["bar"]) fun _ _ _ _ _ _ us hl => match us, hl with | [_], _ => rfl
  have F10 := fun_mk (st := s_hook_worth) l10 c10 k10
  have b10 := F10.binds (ps := ["bar"]) fun _ _ _ _ _ _ us hl => match us, hl with | [_], _ => rfl
  have F11 := fun_mk (st := s_asked_table) l11 c11 k11
  have b11 := F11.binds (ps := ["table"]) fun _ _ _ _ _ _ us hl => match us, hl with | [_], _ => rfl
  have F12 := fun_mk (st := s_together_of) l12 c12 k12
  have b12 := F12.binds (ps := ["table", "known"]) fun _ _ _ _ _ _ us hl => match us, hl with | [_, _], _ => rfl
  have F13 := fun_mk (st := s_together) l13 c13 k13
  have b13 := F13.binds (ps := ["table"]) fun _ _ _ _ _ _ us hl => match us, hl with | [_], _ => rfl
  have F14 := fun_mk (st := s_wins) l14 c14 k14
  have b14 := F14.binds (ps := ["table"]) fun _ _ _ _ _ _ us hl => match us, hl with | [_], _ => rfl
  have F15 := fun_mk (st := s_winning) l15 c15 k15
  have b15 := F15.binds (ps := ["table"]) fun _ _ _ _ _ _ us hl => match us, hl with | [_], _ => rfl
  have F16 := fun_mk (st := s_moved) l16 c16 k16
  have b16 := F16.binds (ps := ["table", "number", "row", "column"]) fun _ _ _ _ _ _ us hl => match us, hl with | [_, _, _, _], _ => rfl
  have F17 := fun_mk (st := s_shown) l17 c17 k17
  have b17 := F17.binds (ps := ["table"]) fun _ _ _ _ _ _ us hl => match us, hl with | [_], _ => rfl
  have F18 := fun_mk (st := s_law_cell_at) l18 c18 k18
  have b18 := F18.binds (ps := ["script", "k"]) fun _ _ _ _ _ _ us hl => match us, hl with | [_, _], _ => rfl
  have F19 := fun_mk (st := s_law_word_of) l19 c19 k19
  have b19 := F19.binds (ps := ["e"]) fun _ _ _ _ _ _ us hl => match us, hl with | [_], _ => rfl
  have F20 := fun_mk (st := s_law_bar_by) l20 c20 k20
  have b20 := F20.binds (ps := ["cell", "most"]) fun _ _ _ _ _ _ us hl => match us, hl with | [_, _], _ => rfl
  have F21 := fun_mk (st := s_law_of_bar) l21 c21 k21
  have b21 := F21.binds (ps := ["which", "bar"]) fun _ _ _ _ _ _ us hl => match us, hl with | [_, _], _ => rfl
  have F22 := fun_mk (st := s_law_of_table) l22 c22 k22
  have b22 := F22.binds (ps := ["which", "table"]) fun _ _ _ _ _ _ us hl => match us, hl with | [_, _], _ => rfl
  have F23 := fun_mk (st := s_law_tried) l23 c23 k23
  have b23 := F23.binds (ps := ["which", "bar", "table"]) fun _ _ _ _ _ _ us hl => match us, hl with | [_, _, _], _ => rfl
  have F24 := fun_mk (st := s_law_spoilt) l24 c24 k24
  have b24 := F24.binds (ps := ["bar", "kind", "cell"]) fun _ _ _ _ _ _ us hl => match us, hl with | [_, _, _], _ => rfl
  have F25 := fun_mk (st := s_law) l25 c25 k25
  refine ⟨PySem.W.fnOf "law" "law" (defArgs s_law) (defBody s_law) (defScope s_law) .none kV25 dc25 pm25 an25 cd25 ct25, fun s v => .of_eq rfl, fun base _ _ => ?_⟩
  have C_is_bar := Cal.mk ⟨_, _, ok_is_bar (P := l.prog) (w := w) (base := base) F0 (m_len := m_len) (g_MOST_ROWS := g_MOST_ROWS) (g_MOST_PIECES := g_MOST_PIECES), PySem.W.mg_of X G a0, k0, b0⟩
  have C_asked_bar := Cal.mk ⟨_, _, ok_asked_bar (P := l.prog) (w := w) (base := base) F1 (C_is_bar := C_is_bar), PySem.W.mg_of X G a1, k1, b1⟩
  have X_asked_bar := Cal.mk ⟨_, _, okx_asked_bar (P := l.prog) (w := w) (base := base) F1 (C_is_bar := C_is_bar) (T_kinds := T_kinds), PySem.W.mg_of X G a1, k1, b1⟩
  have C_bites_of := Cal.mk ⟨_, _, ok_bites_of (P := l.prog) (w := w) (base := base) F2 (m_len := m_len) (m_range := m_range) (m_int := m_int), PySem.W.mg_of X G a2, k2, b2⟩
  have C_bites := Cal.mk ⟨_, _, ok_bites (P := l.prog) (w := w) (base := base) F3 (C_asked_bar := C_asked_bar) (C_bites_of := C_bites_of), PySem.W.mg_of X G a3, k3, b3⟩
  have X_bites := Cal.mk ⟨_, _, okx_bites (P := l.prog) (w := w) (base := base) F3 (C_asked_bar := C_asked_bar) (C_bites_of := C_bites_of) (X_asked_bar := X_asked_bar), PySem.W.mg_of X G a3, k3, b3⟩
  have C_behind := Cal.mk ⟨_, _, ok_behind (P := l.prog) (w := w) (base := base) F4 (m_list := m_list) (m_min := m_min), PySem.W.mg_of X G a4, k4, b4⟩
  have C_bitten := Cal.mk ⟨_, _, ok_bitten (P := l.prog) (w := w) (base := base) F5 (C_bites_of := C_bites_of) (C_behind := C_behind) (T_kinds := T_kinds) (X_asked_bar := X_asked_bar), PySem.W.mg_of X G a5, k5, b5⟩
  have C_turned := Cal.mk ⟨_, _, ok_turned (P := l.prog) (w := w) (base := base) F6 (m_len := m_len) (m_range := m_range) (C_asked_bar := C_asked_bar), PySem.W.mg_of X G a6, k6, b6⟩
  have X_turned := Cal.mk ⟨_, _, okx_turned (P := l.prog) (w := w) (base := base) F6 (m_len := m_len) (m_range := m_range) (C_asked_bar := C_asked_bar) (X_asked_bar := X_asked_bar), PySem.W.mg_of X G a6, k6, b6⟩
  have C_added := Cal.mk ⟨_, _, ok_added (P := l.prog) (w := w) (base := base) F7, PySem.W.mg_of X G a7, k7, b7⟩
  have C_worth_of := ok_worth_of (P := l.prog) (w := w) (base := base) F8 b8 (PySem.W.mg_of X G a8) (m_tuple := m_tuple) (C_bites_of := C_bites_of) (C_behind := C_behind)
  have C_worth := Cal.mk ⟨_, _, ok_worth (P := l.prog) (w := w) (base := base) F9 (C_asked_bar := C_asked_bar) (C_worth_of := C_worth_of), PySem.W.mg_of X G a9, k9, b9⟩
  have X_worth := Cal.mk ⟨_, _, okx_worth (P := l.prog) (w := w) (base := base) F9 (C_asked_bar := C_asked_bar) (C_worth_of := C_worth_of) (X_asked_bar := X_asked_bar), PySem.W.mg_of X G a9, k9, b9⟩
  have C_hook_worth := Cal.mk ⟨_, _, ok_hook_worth (P := l.prog) (w := w) (base := base) F10 (m_len := m_len) (C_asked_bar := C_asked_bar) (C_added := C_added), PySem.W.mg_of X G a10, k10, b10⟩
  have X_hook_worth := Cal.mk ⟨_, _, okx_hook_worth (P := l.prog) (w := w) (base := base) F10 (m_len := m_len) (C_asked_bar := C_asked_bar) (C_added := C_added) (X_asked_bar := X_asked_bar), PySem.W.mg_of X G a10, k10, b10⟩
  have C_asked_table := Cal.mk ⟨_, _, ok_asked_table (P := l.prog) (w := w) (base := base) F11 (m_len := m_len) (g_MOST := g_MOST) (C_asked_bar := C_asked_bar), PySem.W.mg_of X G a11, k11, b11⟩
  have X_asked_table := Cal.mk ⟨_, _, okx_asked_table (P := l.prog) (w := w) (base := base) F11 (T_kinds := T_kinds) (m_len := m_len) (g_MOST := g_MOST) (X_asked_bar := X_asked_bar), PySem.W.mg_of X G a11, k11, b11⟩
  have C_together_of := Cal.mk ⟨_, _, ok_together_of (P := l.prog) (w := w) (base := base) F12 (C_added := C_added) (C_worth_of := C_worth_of), PySem.W.mg_of X G a12, k12, b12⟩
  have C_together := Cal.mk ⟨_, _, ok_together (P := l.prog) (w := w) (base := base) F13 (C_asked_table := C_asked_table) (C_together_of := C_together_of), PySem.W.mg_of X G a13, k13, b13⟩
  have X_together := Cal.mk ⟨_, _, okx_together (P := l.prog) (w := w) (base := base) F13 (C_asked_table := C_asked_table) (C_together_of := C_together_of) (X_asked_table := X_asked_table), PySem.W.mg_of X G a13, k13, b13⟩
  have C_wins := Cal.mk ⟨_, _, ok_wins (P := l.prog) (w := w) (base := base) F14 (C_together := C_together), PySem.W.mg_of X G a14, k14, b14⟩
  have X_wins := Cal.mk ⟨_, _, okx_wins (P := l.prog) (w := w) (base := base) F14 (C_together := C_together) (X_together := X_together), PySem.W.mg_of X G a14, k14, b14⟩
  have C_winning := Cal.mk ⟨_, _, ok_winning (P := l.prog) (w := w) (base := base) F15 (m_enumerate := m_enumerate) (C_asked_table := C_asked_table) (C_together_of := C_together_of) (C_added := C_added) (C_worth_of := C_worth_of) (C_bites_of := C_bites_of) (C_behind := C_behind), PySem.W.mg_of X G a15, k15, b15⟩
  have X_winning := Cal.mk ⟨_, _, okx_winning (P := l.prog) (w := w) (base := base) F15 (m_enumerate := m_enumerate) (C_asked_table := C_asked_table) (C_together_of := C_together_of) (C_added := C_added) (C_worth_of := C_worth_of) (C_bites_of := C_bites_of) (C_behind := C_behind) (X_asked_table := X_asked_table), PySem.W.mg_of X G a15, k15, b15⟩
  have C_moved := Cal.mk ⟨_, _, ok_moved (P := l.prog) (w := w) (base := base) F16 (m_len := m_len) (m_list := m_list) (C_asked_table := C_asked_table) (C_bites_of := C_bites_of) (C_behind := C_behind) (T_kinds := T_kinds), PySem.W.mg_of X G a16, k16, b16⟩
  have X_moved := Cal.mk ⟨_, _, okx_moved (P := l.prog) (w := w) (base := base) F16 (m_len := m_len) (m_list := m_list) (C_asked_table := C_asked_table) (C_bites_of := C_bites_of) (C_behind := C_behind) (T_kinds := T_kinds) (X_asked_table := X_asked_table), PySem.W.mg_of X G a16, k16, b16⟩
  have C_shown := Cal.mk ⟨_, _, ok_shown (P := l.prog) (w := w) (base := base) F17 (m_str := m_str) (C_asked_table := C_asked_table), PySem.W.mg_of X G a17, k17, b17⟩
  have X_shown := Cal.mk ⟨_, _, okx_shown (P := l.prog) (w := w) (base := base) F17 (m_str := m_str) (C_asked_table := C_asked_table) (X_asked_table := X_asked_table), PySem.W.mg_of X G a17, k17, b17⟩
  have C_law_cell_at := Cal.mk ⟨_, _, ok_law_cell_at (P := l.prog) (w := w) (base := base) F18 (m_len := m_len), PySem.W.mg_of X G a18, k18, b18⟩
  have C_law_word_of := CalE.mk ⟨_, _, ok_law_word_of (P := l.prog) (w := w) (base := base) F19 (m_isinstance := m_isinstance) (m_ValueError := m_ValueError) (T_kinds := T_kinds), PySem.W.mg_of X G a19, k19, b19⟩
  have C_law_bar_by := Cal.mk ⟨_, _, ok_law_bar_by (P := l.prog) (w := w) (base := base) F20 (m_range := m_range) (m_sorted := m_sorted), PySem.W.mg_of X G a20, k20, b20⟩
  have C_law_of_bar := Cal.mk ⟨_, _, ok_law_of_bar (P := l.prog) (w := w) (base := base) F21 (C_bitten := C_bitten) (X_bites := X_bites) (X_turned := X_turned) (X_worth := X_worth) (X_hook_worth := X_hook_worth), PySem.W.mg_of X G a21, k21, b21⟩
  have C_law_of_table := Cal.mk ⟨_, _, ok_law_of_table (P := l.prog) (w := w) (base := base) F22 (X_together := X_together) (X_wins := X_wins) (X_winning := X_winning) (X_moved := X_moved) (X_shown := X_shown), PySem.W.mg_of X G a22, k22, b22⟩
  have C_law_tried := Cal.mk ⟨_, _, ok_law_tried (P := l.prog) (w := w) (base := base) F23 (T_kinds := T_kinds) (C_law_of_bar := C_law_of_bar) (C_law_of_table := C_law_of_table) (C_law_word_of := C_law_word_of), PySem.W.mg_of X G a23, k23, b23⟩
  have C_law_spoilt := Cal.mk ⟨_, _, ok_law_spoilt (P := l.prog) (w := w) (base := base) F24 (m_len := m_len), PySem.W.mg_of X G a24, k24, b24⟩
  exact (ok_law (P := l.prog) (w := w) (base := base) F25 (m_len := m_len) (m_list := m_list) (m_range := m_range) (m_int := m_int) (C_law_bar_by := C_law_bar_by) (C_law_cell_at := C_law_cell_at) (C_law_tried := C_law_tried) (C_law_spoilt := C_law_spoilt)).mono (by decide)
end Bb
open PySem PySem.W PyProof.Rows
set_option maxRecDepth 100000 in
set_option maxHeartbeats 0 in
theorem PySem.Challenge.cw_bitebar_k13_refused_holds : PySem.Challenge.rw_bitebar_k13_refused.Holds := by
  w_on; o_law; k_head; (case hw => w_witness2)
  k_fill
  refine L2.walk_of (l := PySem.Challenge.rw_bitebar_k13_refused) (n := 63) (k := 60) (x := "script") (CX := fun _ => L2.CX0) (sp := fun w => Bb.sp_law _) rfl (by decide) rfl ⟨rfl, by decide, by decide⟩ (fun w h Y => PySem.W.kIn_of Y) ?F (fun _ H a ns hl _ hS => ⟨a, ns, rfl, hS, hl, fun _ => rfl⟩) (fun _ _ _ _ _ h => h)
  case F =>
    intro w mg fa h KX G hmg
    refine' Bb.all_mk KX G hmg ?a0 ?l0 ?c0 ?k0 ?a1 ?l1 ?c1 ?k1 ?a2 ?l2 ?c2 ?k2 ?a3 ?l3 ?c3 ?k3 ?a4 ?l4 ?c4 ?k4 ?a5 ?l5 ?c5 ?k5 ?a6 ?l6 ?c6 ?k6 ?a7 ?l7 ?c7 ?k7 ?a8 ?l8 ?c8 ?k8 ?a9 ?l9 ?c9 ?k9 ?a10 ?l10 ?c10 ?k10 ?a11 ?l11 ?c11 ?k11 ?a12 ?l12 ?c12 ?k12 ?a13 ?l13 ?c13 ?k13 ?a14 ?l14 ?c14 ?k14 ?a15 ?l15 ?c15 ?k15 ?a16 ?l16 ?c16 ?k16 ?a17 ?l17 ?c17 ?k17 ?a18 ?l18 ?c18 ?k18 ?a19 ?l19 ?c19 ?k19 ?a20 ?l20 ?c20 ?k20 ?a21 ?l21 ?c21 ?k21 ?a22 ?l22 ?c22 ?k22 ?a23 ?l23 ?c23 ?k23 ?a24 ?l24 ?c24 ?k24 ?a25 ?l25 ?c25 ?k25 ?z_len ?z_range ?z_int ?z_list ?z_min ?z_tuple ?z_enumerate ?z_str ?z_isinstance ?z_ValueError ?z_sorted ?y_MOST_ROWS ?y_MOST_PIECES ?y_MOST ?ce_a ?cB_b ?cB_d ?cB_t ?cs_n ?cs_t ?ca_0 ?cx_0 ?ck_0 ?cb_0 ?ct_0 ?cm_0 ?cv_0 ?ch_0 ?cg_0 ?cy_0 ?cd_0 ?cj_0 ?ca_1 ?cx_1 ?ck_1 ?cb_1 ?ct_1 ?cm_1 ?cv_1 ?ch_1 ?cg_1 ?cy_1 ?cd_1 ?cj_1 ?ca_2 ?cx_2 ?ck_2 ?cb_2 ?ct_2 ?cm_2 ?cv_2 ?ch_2 ?cg_2 ?cy_2 ?cd_2 ?cj_2 ?ca_3 ?cx_3 ?ck_3 ?cb_3 ?ct_3 ?cm_3 ?cv_3 ?ch_3 ?cg_3 ?cy_3 ?cd_3 ?cj_3 ?ck_00 ?ck_01 ?ck_02 ?ck_03 ?ck_10 ?ck_11 ?ck_12 ?ck_13 ?ck_20 ?ck_21 ?ck_22 ?ck_23 ?ck_30 ?ck_31 ?ck_32 ?ck_33
    (case a0 => k_is); (case l0 => k_is); (case c0 => k_is); (case k0 => k_is); (case a1 => k_is); (case l1 => k_is); (case c1 => k_is); (case k1 => k_is); (case a2 => k_is); (case l2 => k_is); (case c2 => k_is); (case k2 => k_is); (case a3 => k_is); (case l3 => k_is); (case c3 => k_is); (case k3 => k_is); (case a4 => k_is); (case l4 => k_is); (case c4 => k_is); (case k4 => k_is); (case a5 => k_is); (case l5 => k_is); (case c5 => k_is); (case k5 => k_is); (case a6 => k_is); (case l6 => k_is); (case c6 => k_is); (case k6 => k_is); (case a7 => k_is); (case l7 => k_is); (case c7 => k_is); (case k7 => k_is); (case a8 => k_is); (case l8 => k_is); (case c8 => k_is); (case k8 => k_is); (case a9 => k_is); (case l9 => k_is); (case c9 => k_is); (case k9 => k_is); (case a10 => k_is); (case l10 => k_is); (case c10 => k_is); (case k10 => k_is); (case a11 => k_is); (case l11 => k_is); (case c11 => k_is); (case k11 => k_is); (case a12 => k_is); (case l12 => k_is); (case c12 => k_is); (case k12 => k_is); (case a13 => k_is); (case l13 => k_is); (case c13 => k_is); (case k13 => k_is); (case a14 => k_is); (case l14 => k_is); (case c14 => k_is); (case k14 => k_is); (case a15 => k_is); (case l15 => k_is); (case c15 => k_is); (case k15 => k_is); (case a16 => k_is); (case l16 => k_is); (case c16 => k_is); (case k16 => k_is); (case a17 => k_is); (case l17 => k_is); (case c17 => k_is); (case k17 => k_is); (case a18 => k_is); (case l18 => k_is); (case c18 => k_is); (case k18 => k_is); (case a19 => k_is); (case l19 => k_is); (case c19 => k_is); (case k19 => k_is); (case a20 => k_is); (case l20 => k_is); (case c20 => k_is); (case k20 => k_is); (case a21 => k_is); (case l21 => k_is); (case c21 => k_is); (case k21 => k_is); (case a22 => k_is); (case l22 => k_is); (case c22 => k_is); (case k22 => k_is); (case a23 => k_is); (case l23 => k_is); (case c23 => k_is); (case k23 => k_is); (case a24 => k_is); (case l24 => k_is); (case c24 => k_is); (case k24 => k_is); (case a25 => k_is); (case l25 => k_is); (case c25 => k_is); (case k25 => k_is); (case z_len => k_is); (case z_range => k_is); (case z_int => k_is); (case z_list => k_is); (case z_min => k_is); (case z_tuple => k_is); (case z_enumerate => k_is); (case z_str => k_is); (case z_isinstance => k_is); (case z_ValueError => k_is); (case z_sorted => k_is); (case y_MOST_ROWS => k_is); (case y_MOST_PIECES => k_is); (case y_MOST => k_is); (case ce_a => k_is); (case cB_b => k_is); (case cB_d => k_is); (case cB_t => k_is); (case cs_n => k_is); (case cs_t => k_is); (case ca_0 => k_is); (case cx_0 => k_exc); (case ck_0 => k_is); (case cb_0 => k_is); (case ct_0 => k_is); (case cm_0 => k_is); (case cv_0 => kit_is); (case ch_0 => k_is); (case cg_0 => k_is); (case cy_0 => k_is); (case cd_0 => k_is); (case cj_0 => k_is); (case ca_1 => k_is); (case cx_1 => k_exc); (case ck_1 => k_is); (case cb_1 => k_is); (case ct_1 => k_is); (case cm_1 => k_is); (case cv_1 => kit_is); (case ch_1 => k_is); (case cg_1 => k_is); (case cy_1 => k_is); (case cd_1 => k_is); (case cj_1 => k_is); (case ca_2 => k_is); (case cx_2 => k_exc); (case ck_2 => k_is); (case cb_2 => k_is); (case ct_2 => k_is); (case cm_2 => k_is); (case cv_2 => kit_is); (case ch_2 => k_is); (case cg_2 => k_is); (case cy_2 => k_is); (case cd_2 => k_is); (case cj_2 => k_is); (case ca_3 => k_is); (case cx_3 => k_exc); (case ck_3 => k_is); (case cb_3 => k_is); (case ct_3 => k_is); (case cm_3 => k_is); (case cv_3 => kit_is); (case ch_3 => k_is); (case cg_3 => k_is); (case cy_3 => k_is); (case cd_3 => k_is); (case cj_3 => k_is); (case ck_00 => kit_is); (case ck_01 => kit_is); (case ck_02 => kit_is); (case ck_03 => kit_is); (case ck_10 => kit_is); (case ck_11 => kit_is); (case ck_12 => kit_is); (case ck_13 => kit_is); (case ck_20 => kit_is); (case ck_21 => kit_is); (case ck_22 => kit_is); (case ck_23 => kit_is); (case ck_30 => kit_is); (case ck_31 => kit_is); (case ck_32 => kit_is); (case ck_33 => kit_is)
#print axioms PySem.Challenge.cw_bitebar_k13_refused_holds
