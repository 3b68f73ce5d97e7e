import PyProof.Rows.All
import Wide.All
import OpenK.AllK
import Wide.FinOn
import HandS.ForMost
import HandS.SortKw
import HandS.Deep
import HandS.IsInst
import HandS.Codes
import HandS.ExcCtx
import HandS.ExcIs
import HandS.HotCalls
import KE.RegKIsAll
import PySem.Challenge.RW_bitebar_k11_moved
set_option Elab.async false
set_option linter.all false
set_option maxRecDepth 100000
set_option maxHeartbeats 8000000
namespace Bb
open PySem PySem.Spec PyProof.Rows L2
/-! ### bars, bites -/
/-- a bar of at most m rows of at most m pieces -/
structure IsBar (m : Int) (b : List Int) : Prop where
  ne : 1 ≤ b.length
  le : (b.length : Int) ≤ m
  pw : b.Pairwise (· ≥ ·)
  rg : ∀ x ∈ b, 1 ≤ x ∧ x ≤ m
theorem IsBar.mono {m n : Int} {b : List Int} (h : IsBar m b) (hn : m ≤ n) : IsBar n b :=
  ⟨h.ne, Int.le_trans h.le hn, h.pw, fun x hx => ⟨(h.rg x hx).1, Int.le_trans (h.rg x hx).2 hn⟩⟩
/-- each row from 1 on, none greater than the one ahead -/
def falls (m : Int) : List Int → Bool
  | [] => true
  | x :: xs => decide (1 ≤ x ∧ x ≤ m) && falls x xs
def isBarB (b : List Int) : Bool := decide (1 ≤ b.length ∧ b.length ≤ 5) && falls 5 b
theorem falls_iff {m : Int} {b : List Int} : falls m b = true ↔ b.Pairwise (· ≥ ·) ∧ ∀ x ∈ b, 1 ≤ x ∧ x ≤ m := by
  induction b generalizing m with
  | nil => simp [falls]
  | cons x xs ih =>
    rw [falls, Bool.and_eq_true, decide_eq_true_eq, ih, List.pairwise_cons]
    constructor
    · rintro ⟨⟨h1, h2⟩, h3, h4⟩
      refine ⟨⟨fun y hy => (h4 y hy).2, h3⟩, fun y hy => ?_⟩
      rcases List.mem_cons.mp hy with rfl | hy
      · exact ⟨h1, h2⟩
      · exact ⟨(h4 y hy).1, Int.le_trans (h4 y hy).2 h2⟩
    · rintro ⟨⟨h1, h2⟩, h3⟩
      exact ⟨h3 x (List.mem_cons_self), h2, fun y hy => ⟨(h3 y (List.mem_cons_of_mem _ hy)).1, h1 y hy⟩⟩
theorem isBarB_iff {b : List Int} : isBarB b = true ↔ IsBar 5 b := by
  unfold isBarB
  rw [Bool.and_eq_true, decide_eq_true_eq, falls_iff]
  constructor
  · rintro ⟨⟨h1, h2⟩, h3, h4⟩
    exact ⟨h1, by omega, h3, h4⟩
  · rintro ⟨h1, h2, h3, h4⟩
    exact ⟨⟨h1, by omega⟩, h3, h4⟩
/-- the bites of row r, columns below n -/
def rowL (r : Nat) : Nat → List (Nat × Nat)
  | 0 => []
  | n + 1 => rowL r n ++ if 0 < r + n then [(r, n)] else []
def bitesFrom (r : Nat) : List Int → List (Nat × Nat)
  | [] => []
  | x :: xs => rowL r x.toNat ++ bitesFrom (r + 1) xs
def bitesL (b : List Int) : List (Nat × Nat) := bitesFrom 0 b
theorem bitesFrom_append (r : Nat) : ∀ (xs ys : List Int), bitesFrom r (xs ++ ys) = bitesFrom r xs ++ bitesFrom (r + xs.length) ys := by
  intro xs
  induction xs generalizing r with
  | nil => intro ys; simp [bitesFrom]
  | cons x xs ih =>
    intro ys
    rw [List.cons_append, bitesFrom, bitesFrom, ih, List.append_assoc, List.length_cons, Nat.add_assoc, Nat.add_comm 1 xs.length]
theorem take_more {α : Type} {l : List α} {i : Nat} {x : α} (h : l[i]? = some x) : l.take (i + 1) = l.take i ++ [x] := by
  rw [List.take_add_one, h]; rfl
theorem bitesL_more {b : List Int} {i : Nat} {x : Int} (h : b[i]? = some x) : bitesL (b.take (i + 1)) = bitesL (b.take i) ++ rowL i x.toNat := by
  have hi : i < b.length := (List.getElem?_eq_some_iff.mp h).1
  unfold bitesL
  rw [take_more h, bitesFrom_append, List.length_take, Nat.min_eq_left (Nat.le_of_lt hi), Nat.zero_add]
  simp [bitesFrom]
theorem rowL_len (r n : Nat) : (rowL r n).length ≤ n := by
  induction n with
  | zero => simp [rowL]
  | succ n ih => rw [rowL, List.length_append]; split <;> simp <;> omega
theorem mem_rowL {r n : Nat} {p : Nat × Nat} : p ∈ rowL r n ↔ p.1 = r ∧ p.2 < n ∧ 0 < r + p.2 := by
  induction n with
  | zero => simp [rowL]
  | succ n ih =>
    rw [rowL, List.mem_append, ih]
    obtain ⟨a, c⟩ := p
    constructor
    · rintro (⟨h1, h2, h3⟩ | h)
      · exact ⟨h1, by omega, h3⟩
      · split at h
        · simp at h; obtain ⟨h1, h2⟩ := h; subst h1 h2; exact ⟨rfl, by simp, by assumption⟩
        · cases h
    · rintro ⟨h1, h2, h3⟩
      simp only at h1 h2 h3
      subst h1
      by_cases e : c = n
      · subst e; right; rw [if_pos h3]; simp
      · left; exact ⟨rfl, by simp only; omega, h3⟩
theorem mem_bitesFrom {r : Nat} {b : List Int} {p : Nat × Nat} : p ∈ bitesFrom r b ↔ ∃ i x, b[i]? = some x ∧ p.1 = r + i ∧ (p.2 : Int) < x ∧ 0 < p.1 + p.2 := by
  induction b generalizing r with
  | nil => simp [bitesFrom]
  | cons y ys ih =>
    rw [bitesFrom, List.mem_append, mem_rowL, ih]
    constructor
    · rintro (⟨h1, h2, h3⟩ | ⟨i, x, h1, h2, h3, h4⟩)
      · exact ⟨0, y, rfl, by omega, by omega, by omega⟩
      · exact ⟨i + 1, x, by simpa using h1, by omega, h3, h4⟩
    · rintro ⟨i, x, h1, h2, h3, h4⟩
      cases i with
      | zero =>
        left
        have e : y = x := by simpa using h1
        subst e
        exact ⟨by omega, by omega, by omega⟩
      | succ i =>
        right
        exact ⟨i, x, by simpa using h1, by omega, h3, h4⟩
theorem mem_bitesL {b : List Int} {p : Nat × Nat} : p ∈ bitesL b ↔ ∃ x, b[p.1]? = some x ∧ (p.2 : Int) < x ∧ 0 < p.1 + p.2 := by
  unfold bitesL
  rw [mem_bitesFrom]
  constructor
  · rintro ⟨i, x, h1, h2, h3, h4⟩
    have e : p.1 = i := by omega
    subst e
    exact ⟨x, h1, h3, h4⟩
  · rintro ⟨x, h1, h2, h3⟩
    exact ⟨p.1, x, h1, by omega, h2, h3⟩
theorem bitesFrom_len (r : Nat) : ∀ (b : List Int), (∀ x ∈ b, x ≤ 5) → (bitesFrom r b).length ≤ 5 * b.length := by
  intro b
  induction b generalizing r with
  | nil => intro _; simp [bitesFrom]
  | cons x xs ih =>
    intro h
    have h1 := rowL_len r x.toNat
    have h2 := ih (r + 1) fun y hy => h y (List.mem_cons_of_mem _ hy)
    have h3 := h x List.mem_cons_self
    rw [bitesFrom, List.length_append, List.length_cons]
    omega
theorem bitesL_len {b : List Int} (h : IsBar 5 b) : (bitesL b).length ≤ 25 := by
  have := bitesFrom_len 0 b fun x hx => (h.rg x hx).2
  have := h.le
  unfold bitesL
  omega
theorem bitesL_take_len {b : List Int} (h : IsBar 5 b) (i : Nat) : (bitesL (b.take i)).length ≤ 25 := by
  have := bitesFrom_len 0 (b.take i) fun x hx => (h.rg x (List.mem_of_mem_take hx)).2
  have := h.le
  have : (b.take i).length ≤ b.length := by rw [List.length_take]; omega
  unfold bitesL
  omega
/-- the bar behind a bite -/
def behindL (b : List Int) (r c : Nat) : List Int := b.take r ++ if 0 < c then (b.drop r).map fun x => min x (c : Int) else []
/-! ### heaps -/
theorem sNew {H : Hp} {p : Addr} {o : HO} (h : H p = none) : Same H (upd H p o) := fun b x e => by
  rw [upd_ne (ne_of_none e h)]
  exact e
theorem sThen {H0 H : Hp} {p : Addr} {o : HO} (s : Same H0 H) (h : H p = none) : Same H0 (upd H p o) := s.trans (sNew h)
/-- an object that was not there at the start is written -/
theorem sPut {H0 H : Hp} {p : Addr} {o : HO} (s : Same H0 H) (h : H0 p = none) : Same H0 (upd H p o) := fun b x e => by
  rw [upd_ne (ne_of_none e h)]
  exact s b x e
/-- the tuples stay -/
def KT (H H' : Hp) : Prop := ∀ t xs, H t = some (.tup xs) → H' t = some (.tup xs)
theorem KT.refl (H : Hp) : KT H H := fun _ _ h => h
theorem KT.trans {H H1 H2 : Hp} (a : KT H H1) (b : KT H1 H2) : KT H H2 := fun t xs h => b t xs (a t xs h)
theorem KT.same {H H' : Hp} (s : Same H H') : KT H H' := fun t xs h => s _ _ h
theorem KT.new {H : Hp} {p : Addr} {o : HO} (h : H p = none) : KT H (upd H p o) := KT.same (sNew h)
theorem KT.lst {H : Hp} {p : Addr} {o : HO} {xs : List V} (h : H p = some (.lst xs)) : KT H (upd H p o) := fun t ys e => by
  rw [upd_ne (ne_of e h (by intro q; cases q))]
  exact e
theorem KT.dK {H : Hp} {p : Addr} {o : HO} {xs : List (Key × V)} (h : H p = some (.dK xs)) : KT H (upd H p o) := fun t ys e => by
  rw [upd_ne (ne_of e h (by intro q; cases q))]
  exact e
theorem KT.dT {H : Hp} {p : Addr} {o : HO} {xs : List (List Key × V)} (h : H p = some (.dT xs)) : KT H (upd H p o) := fun t ys e => by
  rw [upd_ne (ne_of e h (by intro q; cases q))]
  exact e
/-- a list of tuples of ints -/
abbrev TL (H : Hp) (xs : List V) (ds : List (List Int)) : Prop := Paired (fun (x : V) (d : List Int) => ∃ t, x = .ref t ∧ H t = some (.tup (d.map V.int))) xs ds
theorem TL.keep {H H' : Hp} (k : KT H H') {xs : List V} {ds : List (List Int)} (h : TL H xs ds) : TL H' xs ds :=
  Paired.mapP h fun _ _ ⟨t, e, z⟩ => ⟨t, e, k _ _ z⟩
theorem TL.nil {H : Hp} : TL H [] [] := Paired.nil
theorem TL.length {H : Hp} {xs : List V} {ds : List (List Int)} (h : TL H xs ds) : xs.length = ds.length := Paired.length h
theorem TL.append {H : Hp} {xs ys : List V} {ds es : List (List Int)} (h : TL H xs ds) (h' : TL H ys es) : TL H (xs ++ ys) (ds ++ es) := by
  induction h with
  | nil => exact h'
  | cons r _ ih => exact Paired.cons r ih
theorem TL.snoc {H : Hp} {xs : List V} {ds : List (List Int)} {t : Addr} {d : List Int} (h : TL H xs ds) (e : H t = some (.tup (d.map V.int))) : TL H (xs ++ [.ref t]) (ds ++ [d]) :=
  h.append (Paired.cons ⟨t, rfl, e⟩ Paired.nil)
theorem TL.get {H : Hp} : ∀ {xs : List V} {ds : List (List Int)} {i : Nat} {d : List Int}, TL H xs ds → ds[i]? = some d → ∃ t, xs[i]? = some (.ref t) ∧ H t = some (.tup (d.map V.int))
  | _, _, i, d, Paired.nil, e => by simp at e
  | _, _, 0, d, Paired.cons ⟨t, h1, h2⟩ _, e => by
    obtain rfl := Option.some.inj e
    exact ⟨t, by rw [h1]; rfl, h2⟩
  | _, _, i + 1, d, Paired.cons _ r, e => by
    obtain ⟨t, h1, h2⟩ := TL.get (i := i) r (by simpa using e)
    exact ⟨t, by simpa using h1, h2⟩
/-- a bite's place -/
def pr (p : Nat × Nat) : List Int := [(p.1 : Int), (p.2 : Int)]
theorem small {n : Nat} (h : n ≤ 100000) : n ≤ sizeLine := Nat.le_trans h (by rw [sizeLine_eq]; decide)
theorem small' {n : Nat} (h : n ≤ 100000) : n < sizeLine := Nat.lt_of_le_of_lt h (by rw [sizeLine_eq]; decide)
theorem map_get {ns : List Int} {i : Nat} {y : V} (h : (ns.map V.int)[i]? = some y) : ∃ z, ns[i]? = some z ∧ y = V.int z := by
  rw [List.getElem?_map] at h
  cases e : ns[i]? with
  | none => rw [e] at h; cases h
  | some z => rw [e] at h; exact ⟨z, rfl, (Option.some.inj h).symm⟩
theorem get_map {ns : List Int} {i : Nat} {z : Int} (h : ns[i]? = some z) : (ns.map V.int)[i]? = some (V.int z) := by
  rw [List.getElem?_map, h]; rfl
theorem at_map {ns : List Int} {i : Nat} {z : Int} (h : ns[i]? = some z) : atI (ns.map V.int) (i : Int) = some (V.int z) := atI_nat (get_map h)
theorem in62 {n : Nat} (h : n ≤ 100000) : -(2 ^ 62) ≤ (n : Int) ∧ (n : Int) < 2 ^ 62 := by
  constructor <;> omega
/-! ### calls -/
structure Cal (P : Program) (w : World) (K : PySem.W.Frag) (mg : Str → Option Value) (base : Heap) (CX : CXT) (k : Nat) (x : Str) (ps : List Str) (sp : Sp) : Prop where
  ex : ∃ (f : Addr) (fd : FuncData), FnOk P w K mg base CX k f fd ps sp ∧ mg x = some (.ref f) ∧ PySem.W.keepIn K (.ref f) = true ∧ Binds K fd ps []
theorem pe_c {X : Cx} {CX : CXT} {k j : Nat} {x : Str} {ps : List Str} {sp : Sp} {E : XK} {e : Expr} {es : List Expr} {t : TA} {p pos : Pos} (C : Cal X.prog X.w X.K X.mg X.base CX k x ps sp) (hr : Room j X.A) (hj : k ≤ j) (hx : Passes CX X E) (ha : PA X (e :: es) t)
    (hg : Gl X x := by rfl) (hdb : (x == ("__debug__" : Str)) = false := by decide) (he : starEach (e :: es) X.env = (false, eval e X.env) :: starEach es X.env := by rfl) (hpl : (backTo pos (starEach es X.env)).any (·.1) = false := by rfl) :
    PE X (.Call (.Name x p) (e :: es) [] pos) (tCall sp [] E t) := by
  obtain ⟨f, fd, F, gm, kp, bd⟩ := C.ex
  exact pe_call F (hr.mono hj) hg gm kp bd .nil hx ha hdb he hpl
/-- a comprehension without a test -/
theorem yesT {σ : L2.St} {H : Hp} {A B : Hp → Prop} (h : A H) : tYes σ H (fun b H' => if b = true then A H' else B H') := by
  show if true = true then A H else B H
  rw [if_pos rfl]
  exact h
/-! ### tests whose answer is known -/
theorem dT_ {p : Prop} [Decidable p] {A B : Prop} (h : p) (x : A) : if decide p = true then A else B := by
  rw [if_pos (decide_eq_true h)]
  exact x
theorem dF_ {p : Prop} [Decidable p] {A B : Prop} (h : ¬ p) (x : B) : if decide p = true then A else B := by
  rw [if_neg (by rw [decide_eq_false h]; exact Bool.false_ne_true)]
  exact x
theorem nT_ {p : Prop} [Decidable p] {A B : Prop} (h : ¬ p) (x : A) : if (!decide p) = true then A else B := by
  rw [if_pos (by rw [decide_eq_false h]; rfl)]
  exact x
theorem nF_ {p : Prop} [Decidable p] {A B : Prop} (h : p) (x : B) : if (!decide p) = true then A else B := by
  rw [if_neg (by rw [decide_eq_true h]; exact Bool.false_ne_true)]
  exact x
/-- ways by a test -/
theorem d2_ {p : Prop} [Decidable p] {A B : Prop} (x : p → A) (y : ¬ p → B) : if decide p = true then A else B := by
  by_cases h : p
  · exact dT_ h (x h)
  · exact dF_ h (y h)
theorem n2_ {p : Prop} [Decidable p] {A B : Prop} (x : ¬ p → A) (y : p → B) : if (!decide p) = true then A else B := by
  by_cases h : p
  · exact nF_ h (y h)
  · exact nT_ h (x h)
theorem int_eq {i j : Int} (h : V.int i = V.int j) : i = j := V.int.inj h
/-! ### data: lists and tuples of ints, lists of these -/
abbrev dI (ns : List Int) : List PyData := ns.map PyData.int
abbrev dT (ds : List (List Int)) : List PyData := ds.map fun d => PyData.tuple (dI d)
abbrev dL (ds : List (List Int)) : List PyData := ds.map fun d => PyData.list (dI d)
theorem dp_ints {K : PySem.W.Frag} {H : Hp} : ∀ ns : List Int, DpAll K H (ns.map V.int) (dI ns)
  | [] => .nil
  | x :: xs => .cons (.int x) (dp_ints xs)
theorem dp_tups {K : PySem.W.Frag} {H : Hp} : ∀ {xs : List V} {ds : List (List Int)}, TL H xs ds → DpAll K H xs (dT ds)
  | _, _, Paired.nil => .nil
  | _, _, Paired.cons ⟨t, e, h⟩ r => by
    subst e
    exact .cons (.tup (SqT.of h) (dp_ints _)) (dp_tups r)
theorem lay_ints : ∀ ns : List Int, PyData.canLayAll0 (dI ns) = true ∧ PyData.depthAll (dI ns) = 0
  | [] => ⟨by simp [PyData.canLayAll0], by simp [PyData.depthAll]⟩
  | x :: xs => by
    obtain ⟨h1, h2⟩ := lay_ints xs
    refine ⟨?_, ?_⟩
    · rw [dI, List.map_cons, PyData.canLayAll0, h1, PyData.canLay0]; rfl
    · rw [dI, List.map_cons, PyData.depthAll, h2, PyData.depth]; rfl
theorem shaped_list (ns : List Int) : SeqAt.shaped (.list (dI ns)) = true := by
  obtain ⟨h1, h2⟩ := lay_ints ns
  unfold SeqAt.shaped
  rw [PyData.canLay0, h1, PyData.depth, h2]
  rfl
theorem shaped_tup (ns : List Int) : SeqAt.shaped (.tuple (dI ns)) = true := by
  obtain ⟨h1, h2⟩ := lay_ints ns
  unfold SeqAt.shaped
  rw [PyData.canLay0, h1, PyData.depth, h2]
  rfl
theorem lay_tups : ∀ ds : List (List Int), PyData.canLayAll0 (dT ds) = true ∧ PyData.depthAll (dT ds) ≤ 1
  | [] => ⟨by simp [PyData.canLayAll0], by simp [PyData.depthAll]⟩
  | x :: xs => by
    obtain ⟨h1, h2⟩ := lay_tups xs
    obtain ⟨h3, h4⟩ := lay_ints x
    refine ⟨?_, ?_⟩
    · rw [dT, List.map_cons, PyData.canLayAll0, h1, PyData.canLay0, h3]; rfl
    · rw [dT, List.map_cons, PyData.depthAll, PyData.depth, h4]
      exact Nat.max_le.mpr ⟨Nat.le_refl _, h2⟩
theorem lay_lsts : ∀ ds : List (List Int), PyData.canLayAll0 (dL ds) = true ∧ PyData.depthAll (dL ds) ≤ 1
  | [] => ⟨by simp [PyData.canLayAll0], by simp [PyData.depthAll]⟩
  | x :: xs => by
    obtain ⟨h1, h2⟩ := lay_lsts xs
    obtain ⟨h3, h4⟩ := lay_ints x
    refine ⟨?_, ?_⟩
    · rw [dL, List.map_cons, PyData.canLayAll0, h1, PyData.canLay0, h3]; rfl
    · rw [dL, List.map_cons, PyData.depthAll, PyData.depth, h4]
      exact Nat.max_le.mpr ⟨Nat.le_refl _, h2⟩
theorem shaped_tups (ds : List (List Int)) : SeqAt.shaped (.list (dT ds)) = true := by
  obtain ⟨h1, h2⟩ := lay_tups ds
  unfold SeqAt.shaped
  rw [PyData.canLay0, h1, PyData.depth, Bool.true_and]
  exact decide_eq_true (by omega)
theorem shaped_lsts (ds : List (List Int)) : SeqAt.shaped (.list (dL ds)) = true := by
  obtain ⟨h1, h2⟩ := lay_lsts ds
  unfold SeqAt.shaped
  rw [PyData.canLay0, h1, PyData.depth, Bool.true_and]
  exact decide_eq_true (by omega)
theorem eqv_ints : ∀ ns ms : List Int, PyData.eqvAll (dI ns) (dI ms) = decide (ns = ms)
  | [], [] => by simp [dI, PyData.eqvAll]
  | [], _ :: _ => by simp [dI, PyData.eqvAll]
  | _ :: _, [] => by simp [dI, PyData.eqvAll]
  | x :: xs, y :: ys => by
    show PyData.eqvAll (PyData.int x :: dI xs) (PyData.int y :: dI ys) = _
    rw [PyData.eqvAll, eqv_ints xs ys, PyData.eqv, Bool.beq_eq_decide_eq]
    by_cases e : x = y
    · subst e; by_cases e2 : xs = ys <;> simp [e2]
    · simp [e]
theorem eqv_list (ns ms : List Int) : PyData.eqv (.list (dI ns)) (.list (dI ms)) = decide (ns = ms) := by rw [PyData.eqv, eqv_ints]
theorem eqv_tup (ns ms : List Int) : PyData.eqv (.tuple (dI ns)) (.tuple (dI ms)) = decide (ns = ms) := by rw [PyData.eqv, eqv_ints]
theorem eqv_lists : ∀ ns ms : List (List Int), PyData.eqvAll (dL ns) (dL ms) = decide (ns = ms)
  | [], [] => by simp [dL, PyData.eqvAll]
  | [], _ :: _ => by simp [dL, PyData.eqvAll]
  | _ :: _, [] => by simp [dL, PyData.eqvAll]
  | x :: xs, y :: ys => by
    show PyData.eqvAll (PyData.list (dI x) :: dL xs) (PyData.list (dI y) :: dL ys) = _
    rw [PyData.eqvAll, eqv_lists xs ys, eqv_list]
    by_cases e : x = y
    · subst e; by_cases e2 : xs = ys <;> simp [e2]
    · simp [e]
theorem dp_list {K : PySem.W.Frag} {H : Hp} {a : Addr} {ns : List Int} (h : SqL K H a (ns.map V.int)) : Dp K H (.ref a) (.list (dI ns)) := .lst h (dp_ints ns)
theorem dp_tup {K : PySem.W.Frag} {H : Hp} {a : Addr} {ns : List Int} (h : H a = some (.tup (ns.map V.int))) : Dp K H (.ref a) (.tuple (dI ns)) := .tup (SqT.of h) (dp_ints ns)
theorem dp_tl {K : PySem.W.Frag} {H : Hp} {a : Addr} {xs : List V} {ds : List (List Int)} (h : SqL K H a xs) (t : TL H xs ds) : Dp K H (.ref a) (.list (dT ds)) := .lst h (dp_tups t)
/-! ### the rules that speak of the written part, with its name -/
section
variable {X : Cx} {K : PySem.W.Frag}
theorem lenK (hK : X.K = K := by rfl) : CallR X (.builtin "len") (fun xs H Q => ∃ p ys, xs = [.ref p] ∧ (SqL K H p ys ∨ SqT K H p ys) ∧ Q (.int ys.length) H) := by subst hK; exact call_len_seq
theorem ixK (hK : X.K = K := by rfl) : IxR X (rIxL K) := by subst hK; exact ix_list
theorem ixTK (hK : X.K = K := by rfl) : IxR X (rIxT K) := by subst hK; exact ix_tup
theorem slK (hK : X.K = K := by rfl) : SlR X (rSlL K) := by subst hK; exact sl_list
theorem isiK (hK : X.K = K := by rfl) : CallR X (.builtin "isinstance") (rIsi K) := by subst hK; exact call_isi
theorem eqDK (hu : X.A.units + 64 < cLine) (hK : X.K = K := by rfl) : OpR X (compareOp .Eq) (rEqD K) := by subst hK; exact op_eqD hu
theorem neDK (hu : X.A.units + 64 < cLine) (hK : X.K = K := by rfl) : OpR X (compareOp .NotEq) (rNeD K) := by subst hK; exact op_neD hu
theorem inDK (hu : X.A.units + 65 < cLine) (hK : X.K = K := by rfl) : OpR X (compareOp .In) (rInD K) := by subst hK; exact op_inD hu
theorem notInDK (hu : X.A.units + 65 < cLine) (hK : X.K = K := by rfl) : OpR X (compareOp .NotIn) (rNotInD K) := by subst hK; exact op_notInD hu
theorem inSK (hK : X.K = K := by rfl) : OpR X (compareOp .In) (rIn K false) := by subst hK; exact op_in_seq
theorem notInSK (hK : X.K = K := by rfl) : OpR X (compareOp .NotIn) (rIn K true) := by subst hK; exact op_notIn_seq
theorem listK (hK : X.K = K := by rfl) : CallR X (.type "list") (fun xs H Q => ∃ p ys, xs = [.ref p] ∧ (SqL K H p ys ∨ SqT K H p ys) ∧ ∀ l, H l = none → Q (.ref l) (upd H l (.lst ys))) := by subst hK; exact call_list_of
theorem tupleK (hK : X.K = K := by rfl) : CallR X (.type "tuple") (fun xs H Q => ∃ p ys, xs = [.ref p] ∧ ((SqL K H p ys ∧ ∀ l, H l = none → Q (.ref l) (upd H l (.tup ys))) ∨ (SqT K H p ys ∧ Q (.ref p) H))) := by subst hK; exact call_tuple_of
theorem maxK (hc : X.calm = true) (hK : X.K = K := by rfl) : CallR X (.builtin "max") (rMax K) := by subst hK; exact cr_max hc
theorem indexK (hK : X.K = K := by rfl) : MtR X "list.index" (rIndex K) := by subst hK; exact mt_index
theorem sortedRevK (hK : X.K = K := by rfl) : CallRK X (.builtin "sorted") [Str.ofString "reverse"] (rSortedKw K true [.bl true]) := by subst hK; exact cr_sortedRev (b := true)
theorem pi_listK {tg l : Expr} {tl : TE} (hl : PE X l tl) (hK : X.K = K := by rfl) : PI X tg l (iList K tl) := by subst hK; exact pi_list hl
theorem pi_tupK {tg l : Expr} {tl : TE} (hl : PE X l tl) (hK : X.K = K := by rfl) : PI X tg l (iTup K tl) := by subst hK; exact pi_tup hl
theorem pi_enumK {e : Expr} {ta : TA} {p pos tpos : Pos} {elts : List Expr} {kk : Nat} (hg : Gl X "enumerate") (hm : X.mg "enumerate" = none) (ha : PA X [e] ta) (hs : starEach [e] X.env = [(false, eval e X.env)] := by rfl) (hK : X.K = K := by rfl) :
    PI X (.Tuple elts kk tpos) (.Call (.Name "enumerate" p) [e] [] pos) (iEnum K ta) := by subst hK; exact pi_enum hg hm ha hs
theorem pg_tupK {es : List Expr} {k : Nat} {t : TGs} {n : Nat} {pos : Pos} (hc : X.calm = true) (h : PGs X es t) (hn : (assignEach es X.env).length = n := by rfl) (hst : (assignEach es X.env).findIdx? (·.1) = none := by rfl) (hK : X.K = K := by rfl) :
    PG X (.Tuple es k pos) (gTup K n t) := by subst hK; exact pg_tup hc h hn hst
theorem pe_bmK {o e : Expr} {es : List Expr} {to : TE} {t : TA} {name : Str} {apos cpos : Pos} {T id : String} {r : V → List V → Hp → VK → Prop} (pa : PlainAttrs T) (slot : Slot T name id) (hty : typeOf (.builtin id) = pure (.type "method_descriptor")) (hm : MtR X id r) (ho : PE X o to) (ha : PA X (e :: es) t)
    (hbase : attributeBase o name X.env (eval o X.env) = eval o X.env := by rfl)
    (hfew : ((backTo cpos (starEach (e :: es) X.env)).all (fun x => !x.1) && (backToKw cpos (keywordEach [] X.env)).all (fun x => x.1.isSome)
      && decide ((e :: es).length + ([] : List Keyword).length + (if ([] : List Keyword).isEmpty then 0 else 1) < 30)) = true := by rfl)
    (hline : (apos.endLine == cpos.line) = true := by rfl) (hs : starEach (e :: es) X.env = (false, eval e X.env) :: starEach es X.env := by rfl) (hplain : (backTo cpos (starEach es X.env)).any (·.1) = false := by rfl) (hK : X.K = K := by rfl) : PE X (.Call (.Attribute o name apos) (e :: es) [] cpos) (tBM K T r to t) := by subst hK; exact pe_bm pa slot hty hm ho ha hbase hfew hline hs hplain
end
theorem hu65 {k : Nat} {A : Around} (hr : Room k A) : A.units + 65 < cLine := by
  have := hr.un
  omega
/-- the law's promise -/
def sp_law (K : PySem.W.Frag) : Sp := fun vs H Q _ => ∃ (a : Addr) (ns : List Int), vs = [.ref a] ∧ SqL K H a (ns.map V.int) ∧ ns.length ≤ 63 ∧ ∀ H', Q (.bl true) H'
/-! ### all bars -/
def allFrom : Nat → Nat → List (List Int)
  | 0, _ => [[]]
  | n + 1, m => [] :: (List.range m).flatMap fun i => (allFrom n (i + 1)).map fun t => ((i + 1 : Nat) : Int) :: t
theorem mem_allFrom : ∀ (n : Nat) (m : Nat) (b : List Int), falls (m : Int) b = true → b.length ≤ n → b ∈ allFrom n m
  | 0, m, b, _, h => by
    have : b = [] := List.length_eq_zero_iff.mp (by omega)
    subst this
    simp [allFrom]
  | n + 1, m, [], _, _ => by simp [allFrom]
  | n + 1, m, x :: xs, hf, hl => by
    rw [falls, Bool.and_eq_true, decide_eq_true_eq] at hf
    obtain ⟨⟨h1, h2⟩, h3⟩ := hf
    have e : x = (((x - 1).toNat + 1 : Nat) : Int) := by omega
    rw [allFrom]
    refine List.mem_cons_of_mem _ (List.mem_flatMap.mpr ⟨(x - 1).toNat, List.mem_range.mpr (by omega), List.mem_map.mpr ⟨xs, ?_, by rw [← e]⟩⟩)
    refine mem_allFrom n _ xs (by rw [← e]; exact h3) ?_
    rw [List.length_cons] at hl
    omega
/-- what a table of all bars shows -/
theorem all_bars {P : List Int → Bool} (h : (allFrom 5 5).all (fun b => b.isEmpty || P b) = true) {b : List Int} (hb : IsBar 5 b) : P b = true := by
  have h1 := isBarB_iff.mpr hb
  unfold isBarB at h1
  rw [Bool.and_eq_true, decide_eq_true_eq] at h1
  have h2 := List.all_eq_true.mp h b (mem_allFrom 5 5 b h1.2 h1.1.2)
  have h3 : b.isEmpty = false := by
    cases b with
    | nil => exact absurd h1.1.1 (by decide)
    | cons x xs => rfl
  rw [h3, Bool.false_or] at h2
  exact h2
/-! ### worths -/
def mexFrom (l : List Nat) : Nat → Nat → Nat
  | 0, m => m
  | k + 1, m => if m ∈ l then mexFrom l k (m + 1) else m
/-- the least number that is not in l -/
def mex (l : List Nat) : Nat := mexFrom l (l.sum + 1) 0
theorem le_sum_of_mem : ∀ {l : List Nat} {x : Nat}, x ∈ l → x ≤ l.sum
  | [], x, h => nomatch h
  | a :: l, x, h => by
    rw [List.sum_cons]
    rcases List.mem_cons.mp h with rfl | h
    · omega
    · have := le_sum_of_mem h
      omega
theorem mexFrom_spec (l : List Nat) : ∀ (k m : Nat), l.sum < m + k → (∀ j, j < m → j ∈ l) → mexFrom l k m ∉ l ∧ ∀ j, j < mexFrom l k m → j ∈ l
  | 0, m, h, hb => ⟨fun hm => by have := le_sum_of_mem (show m ∈ l from hm); omega, hb⟩
  | k + 1, m, h, hb => by
    rw [mexFrom]
    by_cases e : m ∈ l
    · rw [if_pos e]
      refine mexFrom_spec l k (m + 1) (by omega) fun j hj => ?_
      rcases Nat.lt_succ_iff_lt_or_eq.mp hj with hj | rfl
      · exact hb j hj
      · exact e
    · rw [if_neg e]
      exact ⟨e, hb⟩
theorem mex_spec (l : List Nat) : mex l ∉ l ∧ ∀ j, j < mex l → j ∈ l := mexFrom_spec l _ 0 (by omega) fun j hj => absurd hj (Nat.not_lt_zero j)
theorem mex_is {l : List Nat} {m : Nat} (h1 : m ∉ l) (h2 : ∀ j, j < m → j ∈ l) : mex l = m := by
  obtain ⟨k1, k2⟩ := mex_spec l
  rcases Nat.lt_trichotomy (mex l) m with h | h | h
  · exact absurd (h2 _ h) k1
  · exact h
  · exact absurd (k2 _ h) h1
theorem mex_congr {l l' : List Nat} (h : ∀ x, x ∈ l ↔ x ∈ l') : mex l = mex l' := mex_is (fun q => (mex_spec l').1 ((h _).mp q)) fun j hj => (h j).mpr ((mex_spec l').2 j hj)
/-- how many pieces a bar has -/
def pieces (b : List Int) : Nat := (b.map Int.toNat).sum
theorem pieces_append (a b : List Int) : pieces (a ++ b) = pieces a + pieces b := by
  unfold pieces
  rw [List.map_append, List.sum_append]
theorem pieces_cut (c : Nat) : ∀ b : List Int, pieces (b.map fun x => min x (c : Int)) ≤ pieces b
  | [] => Nat.le_refl _
  | x :: xs => by
    have := pieces_cut c xs
    unfold pieces at *
    rw [List.map_cons, List.map_cons, List.sum_cons, List.map_cons, List.sum_cons]
    omega
theorem pieces_less {b : List Int} {p : Nat × Nat} (h : p ∈ bitesL b) : pieces (behindL b p.1 p.2) < pieces b := by
  obtain ⟨x, hx, hc, _⟩ := mem_bitesL.mp h
  obtain ⟨hi, e⟩ := List.getElem?_eq_some_iff.mp hx
  have hd : b.drop p.1 = x :: b.drop (p.1 + 1) := by rw [List.drop_eq_getElem_cons hi, e]
  have hb : pieces b = pieces (b.take p.1) + pieces (b.drop p.1) := by rw [← pieces_append, List.take_append_drop]
  unfold behindL
  rw [pieces_append, hb]
  have hcut := pieces_cut p.2 (b.drop (p.1 + 1))
  have hl : pieces (if 0 < p.2 then (b.drop p.1).map fun x => min x (p.2 : Int) else []) < pieces (b.drop p.1) := by
    rw [hd]
    by_cases z : 0 < p.2
    · rw [if_pos z]
      unfold pieces at *
      rw [List.map_cons, List.map_cons, List.sum_cons, List.map_cons, List.sum_cons]
      omega
    · rw [if_neg z]
      unfold pieces
      rw [List.map_cons, List.sum_cons, List.map_nil, List.sum_nil]
      omega
  omega
theorem isBar_behind {m : Int} {b : List Int} (hb : IsBar m b) {p : Nat × Nat} (h : p ∈ bitesL b) : IsBar m (behindL b p.1 p.2) := by
  obtain ⟨x, hx, hc, hp⟩ := mem_bitesL.mp h
  obtain ⟨hi, e⟩ := List.getElem?_eq_some_iff.mp hx
  have hsub : ∀ y ∈ b.drop p.1, y ∈ b := fun y hy => List.mem_of_mem_drop hy
  have pw := hb.pw
  have ln : (behindL b p.1 p.2).length ≤ b.length ∧ 1 ≤ (behindL b p.1 p.2).length := by
    unfold behindL
    rw [List.length_append, List.length_take]
    by_cases z : 0 < p.2
    · rw [if_pos z, List.length_map, List.length_drop]
      omega
    · rw [if_neg z, List.length_nil]
      omega
  refine ⟨ln.2, Int.le_trans (Int.ofNat_le.mpr ln.1) hb.le, ?_, fun y hy => ?_⟩
  · unfold behindL
    refine List.pairwise_append.mpr ⟨pw.sublist (List.take_sublist _ _), ?_, ?_⟩
    · by_cases z : 0 < p.2
      · rw [if_pos z]
        refine List.pairwise_map.mpr ((pw.sublist (List.drop_sublist _ _)).imp fun {a c} h => ?_)
        show min a (p.2 : Int) ≥ min c (p.2 : Int)
        have h : a ≥ c := h
        omega
      · rw [if_neg z]
        exact List.Pairwise.nil
    · intro a ha c hc'
      by_cases z : 0 < p.2
      · rw [if_pos z] at hc'
        obtain ⟨y, hy, rfl⟩ := List.mem_map.mp hc'
        have := List.pairwise_append.mp (show (b.take p.1 ++ b.drop p.1).Pairwise (· ≥ ·) by rw [List.take_append_drop]; exact pw)
        have := this.2.2 a ha y hy
        show a ≥ min y (p.2 : Int)
        omega
      · rw [if_neg z] at hc'
        cases hc'
  · unfold behindL at hy
    rcases List.mem_append.mp hy with hy | hy
    · exact hb.rg y (List.mem_of_mem_take hy)
    · by_cases z : 0 < p.2
      · rw [if_pos z] at hy
        obtain ⟨u, hu, rfl⟩ := List.mem_map.mp hy
        have := hb.rg u (hsub u hu)
        omega
      · rw [if_neg z] at hy
        cases hy
theorem pieces_pos {m : Int} {b : List Int} (hb : IsBar m b) : 1 ≤ pieces b := by
  cases b with
  | nil => exact absurd hb.ne (by decide)
  | cons x xs =>
    have := hb.rg x List.mem_cons_self
    unfold pieces
    rw [List.map_cons, List.sum_cons]
    omega
theorem pieces_le : ∀ {b : List Int}, (∀ x ∈ b, x ≤ 5) → pieces b ≤ 5 * b.length
  | [], _ => Nat.zero_le _
  | x :: xs, h => by
    have h1 := pieces_le (b := xs) fun y hy => h y (List.mem_cons_of_mem _ hy)
    have h2 := h x List.mem_cons_self
    unfold pieces at *
    rw [List.map_cons, List.sum_cons, List.length_cons]
    omega
theorem pieces_25 {b : List Int} (hb : IsBar 5 b) : pieces b ≤ 25 := by
  have := pieces_le fun x hx => (hb.rg x hx).2
  have := hb.le
  omega
/-- a bar's worth, n turns deep -/
def wF : Nat → List Int → Nat
  | 0, _ => 0
  | n + 1, b => mex ((bitesL b).map fun p => wF n (behindL b p.1 p.2))
def worthL (b : List Int) : Nat := wF (pieces b) b
theorem bitesFrom_nil (r : Nat) : ∀ {b : List Int}, pieces b = 0 → bitesFrom r b = []
  | [], _ => rfl
  | x :: xs, h => by
    unfold pieces at h
    rw [List.map_cons, List.sum_cons] at h
    have h0 : x.toNat = 0 := by omega
    rw [bitesFrom, h0, rowL, List.nil_append]
    refine bitesFrom_nil (r + 1) ?_
    unfold pieces
    omega
theorem bitesL_nil {b : List Int} (h : pieces b = 0) : bitesL b = [] := bitesFrom_nil 0 h
theorem wF_any : ∀ (n : Nat) (b : List Int), pieces b ≤ n → wF n b = worthL b
  | 0, b, h => by
    have e : pieces b = 0 := by omega
    unfold worthL
    rw [e]
  | n + 1, b, h => by
    by_cases e : pieces b = 0
    · have h0 : worthL b = 0 := by
        unfold worthL
        rw [e]
        rfl
      rw [h0, wF, bitesL_nil e]
      rfl
    · obtain ⟨k, hk⟩ : ∃ k, pieces b = k + 1 := ⟨pieces b - 1, by omega⟩
      unfold worthL
      rw [hk, wF, wF]
      refine congrArg mex (List.map_congr_left fun p hp => ?_)
      have := pieces_less hp
      rw [wF_any n _ (by omega)]
      exact (wF_any k _ (by omega)).symm
  termination_by n => n
/-- POINT 6 -/
theorem worthL_eq (b : List Int) : worthL b = mex ((bitesL b).map fun p => worthL (behindL b p.1 p.2)) := by
  have h := wF_any (pieces b + 1) b (by omega)
  rw [← h, wF]
  refine congrArg mex (List.map_congr_left fun p hp => ?_)
  have := pieces_less hp
  exact wF_any _ _ (by omega)
theorem behindL_snoc (l : List Int) (x : Int) (r c : Nat) : behindL (l ++ [x]) r c = behindL l r c ++ if l.length < r then [x] else if 0 < c then [min x (c : Int)] else [] := by
  unfold behindL
  by_cases h : l.length < r
  · rw [if_pos h, List.take_of_length_le (by rw [List.length_append]; exact h), List.drop_eq_nil_of_le (by rw [List.length_append]; exact h), List.take_of_length_le (Nat.le_of_lt h), List.drop_eq_nil_of_le (Nat.le_of_lt h)]
    split <;> simp
  · have h' : r ≤ l.length := by omega
    rw [if_neg h, List.take_append_of_le_length h', List.drop_append_of_le_length h']
    split <;> simp
/-! ### lists without doubles -/
theorem length_le_of_sub {α : Type} [DecidableEq α] : ∀ {l m : List α}, l.Nodup → (∀ x ∈ l, x ∈ m) → l.length ≤ m.length
  | [], _, _, _ => Nat.zero_le _
  | x :: l, m, hn, hs => by
    obtain ⟨h1, h2⟩ := List.nodup_cons.mp hn
    have hx := hs x List.mem_cons_self
    have := length_le_of_sub (l := l) (m := m.erase x) h2 fun y hy => (List.mem_erase_of_ne (fun e => h1 (by rw [← e]; exact hy))).mpr (hs y (List.mem_cons_of_mem _ hy))
    have e := List.length_erase_of_mem hx
    have : 1 ≤ m.length := by
      cases m with
      | nil => cases hx
      | cons _ _ => simp
    rw [List.length_cons]
    omega
/-! ### the dict of the worths that are known -/
def keyOf (b : List Int) : List Key := b.map Sum.inl
theorem keyOf_kV (b : List Int) : (keyOf b).map kV = b.map V.int := by
  unfold keyOf
  rw [List.map_map]
  all_goals rfl
theorem keyOf_inj : ∀ {a b : List Int}, keyOf a = keyOf b → a = b
  | [], [], _ => rfl
  | [], _ :: _, h => by cases h
  | _ :: _, [], h => by cases h
  | x :: xs, y :: ys, h => by
    have h : (Sum.inl x : Key) :: keyOf xs = Sum.inl y :: keyOf ys := h
    injection h with h1 h2
    rw [Sum.inl.inj h1, keyOf_inj h2]
structure Known (kvs : List (List Key × V)) : Prop where
  nd : (kvs.map (·.1)).Nodup
  is : ∀ p ∈ kvs, ∃ b : List Int, p.1 = keyOf b ∧ IsBar 5 b ∧ p.2 = .int (worthL b : Nat)
theorem Known.nil : Known [] := ⟨List.nodup_nil, fun _ h => nomatch h⟩
theorem mem_all {b : List Int} (h : IsBar 5 b) : b ∈ allFrom 5 5 := by
  have h1 := isBarB_iff.mpr h
  unfold isBarB at h1
  rw [Bool.and_eq_true, decide_eq_true_eq] at h1
  exact mem_allFrom 5 5 b h1.2 h1.1.2
theorem all_len : (allFrom 5 5).length = 252 := by decide +kernel
theorem Known.len {kvs : List (List Key × V)} (h : Known kvs) : kvs.length ≤ 252 := by
  have q := length_le_of_sub (m := (allFrom 5 5).map keyOf) h.nd fun x hx => by
    obtain ⟨p, hp, rfl⟩ := List.mem_map.mp hx
    obtain ⟨b, e, hb, _⟩ := h.is p hp
    rw [e]
    exact List.mem_map_of_mem (mem_all hb)
  rw [List.length_map, List.length_map, all_len] at q
  exact q
theorem valV_mem {κ : Type} [DecidableEq κ] {kvs : List (κ × V)} {k : κ} {v : V} (h : valV kvs k = some v) : (k, v) ∈ kvs := by
  unfold valV at h
  cases e : kvs.find? fun kv => decide (kv.1 = k) with
  | none =>
    rw [e] at h
    cases h
  | some p =>
    rw [e] at h
    have h1 : p.1 = k := of_decide_eq_true (List.find?_some (p := fun kv : κ × V => decide (kv.1 = k)) e)
    have h2 : p.2 = v := Option.some.inj h
    rw [← h1, ← h2]
    exact List.mem_of_find?_eq_some e
theorem Known.get {kvs : List (List Key × V)} (h : Known kvs) {b : List Int} {v : V} (e : valV kvs (keyOf b) = some v) : v = .int (worthL b : Nat) := by
  obtain ⟨c, h1, _, h2⟩ := h.is _ (valV_mem e)
  have h1 : keyOf b = keyOf c := h1
  have h2 : v = .int (worthL c : Nat) := h2
  rw [keyOf_inj h1]
  exact h2
theorem Known.put {kvs : List (List Key × V)} (h : Known kvs) {b : List Int} (hb : IsBar 5 b) (e : valV kvs (keyOf b) = none) : Known (putK kvs (keyOf b) (.int (worthL b : Nat))) := by
  refine ⟨nd_putK _ h.nd e, fun p hp => ?_⟩
  rw [putK_new _ e] at hp
  rcases List.mem_append.mp hp with hp | hp
  · exact h.is p hp
  · have := List.mem_singleton.mp hp
    subst this
    exact ⟨b, rfl, hb, rfl⟩
theorem Known.again {kvs : List (List Key × V)} (h : Known kvs) {b : List Int} {v : V} (e : valV kvs (keyOf b) = some v) : Known (putK kvs (keyOf b) (.int (worthL b : Nat))) := by
  have hm : (kvs.any fun kv => decide (kv.1 = keyOf b)) = true := by
    rw [valV_any, e]
    rfl
  unfold putK
  rw [if_pos hm]
  have e1 : (kvs.map fun kv => if kv.1 = keyOf b then (kv.1, V.int (worthL b : Nat)) else kv) = kvs := by
    refine (List.map_congr_left fun p hp => ?_).trans (List.map_id _)
    by_cases z : p.1 = keyOf b
    · rw [if_pos z]
      obtain ⟨c, h1, _, h2⟩ := h.is p hp
      have := keyOf_inj (z.symm.trans h1)
      subst this
      rw [← h2]
      all_goals rfl
    · rw [if_neg z]
      all_goals rfl
  rw [e1]
  exact h
/-! ### the dict of the worths that are seen -/
structure Seen (kvs : List (Key × V)) (l : List Nat) : Prop where
  len : kvs.length ≤ l.length
  is : ∀ m : Nat, (valV kvs (.inl (m : Int))).isSome = decide (m ∈ l)
theorem Seen.nil : Seen [] [] := ⟨Nat.le_refl _, fun m => by rw [valV_nil]; rfl⟩
theorem putK_len {κ : Type} [DecidableEq κ] (kvs : List (κ × V)) (k : κ) (v : V) : (putK kvs k v).length ≤ kvs.length + 1 := by
  unfold putK
  split
  · rw [List.length_map]; omega
  · rw [List.length_append]; exact Nat.le_refl _
theorem Seen.put {kvs : List (Key × V)} {l : List Nat} (h : Seen kvs l) (x : Nat) (v : V) : Seen (putK kvs (.inl (x : Int)) v) (l ++ [x]) := by
  refine ⟨?_, fun m => ?_⟩
  · have := putK_len kvs (.inl (x : Int)) v
    have := h.len
    rw [List.length_append, List.length_singleton]
    omega
  · rw [valV_put]
    by_cases e : m = x
    · subst e
      rw [if_pos rfl]
      simp
    · rw [if_neg (fun z => e (by have := Sum.inl.inj z; omega)), h.is m]
      simp [e]
/-! ### all but what stands at d is kept -/
def But (d : Addr) (H H' : Hp) : Prop := ∀ b o, b ≠ d → H b = some o → H' b = some o
theorem But.same {d : Addr} {H H' : Hp} (s : Same H H') : But d H H' := fun b o _ h => s b o h
theorem But.trans {d : Addr} {H H1 H2 : Hp} (a : But d H H1) (b : But d H1 H2) : But d H H2 := fun c o n h => b c o n (a c o n h)
theorem But.at {d : Addr} {H : Hp} {o : HO} : But d H (upd H d o) := fun b u n h => by
  rw [upd_ne n]
  exact h
theorem But.put {d p : Addr} {H0 H : Hp} {o : HO} (s : But d H0 H) (h : H0 p = none) : But d H0 (upd H p o) := fun b x n e => by
  rw [upd_ne (ne_of_none e h)]
  exact s b x n e
theorem But.kt {d : Addr} {H H' : Hp} {kvs : List (List Key × V)} (s : But d H H') (h : H d = some (.dT kvs)) : KT H H' := fun t xs e =>
  s t _ (ne_of e h (by intro q; cases q)) e
theorem But.seq {K : PySem.W.Frag} {d a : Addr} {H H' : Hp} {kvs : List (List Key × V)} {xs : List V} (s : But d H H') (h : H d = some (.dT kvs)) (hs : SqL K H a xs) : SqL K H' a xs := by
  rcases hs with (hs | ⟨o, hs⟩) | hs
  · exact .inl (.inl (s _ _ (ne_of hs h (by intro q; cases q)) hs))
  · exact .inl (.inr ⟨o, s _ _ (ne_of hs h (by intro q; cases q)) hs⟩)
  · exact .inr hs
theorem TL.at' {H : Hp} : ∀ {xs : List V} {ds : List (List Int)} {i : Nat} {x : V}, TL H xs ds → xs[i]? = some x → ∃ t d, ds[i]? = some d ∧ x = .ref t ∧ H t = some (.tup (d.map V.int))
  | _, _, i, x, Paired.nil, e => by simp at e
  | _, _, 0, x, Paired.cons ⟨t, h1, h2⟩ _, e => by
    obtain rfl := Option.some.inj e
    exact ⟨t, _, rfl, h1, h2⟩
  | _, _, i + 1, x, Paired.cons _ r, e => by
    obtain ⟨t, d, h1, h2, h3⟩ := TL.at' (i := i) r (by simpa using e)
    exact ⟨t, d, by simpa using h1, h2, h3⟩
theorem TL.bite {H : Hp} {xs : List V} {ps : List (Nat × Nat)} {i : Nat} {x : V} (h : TL H xs (ps.map pr)) (e : xs[i]? = some x) :
    ∃ t p, ps[i]? = some p ∧ x = .ref t ∧ H t = some (.tup [.int (p.1 : Nat), .int (p.2 : Nat)]) := by
  obtain ⟨t, d, h1, h2, h3⟩ := TL.at' h e
  rw [List.getElem?_map] at h1
  cases e2 : ps[i]? with
  | none =>
    rw [e2] at h1
    cases h1
  | some p =>
    rw [e2] at h1
    have : pr p = d := Option.some.inj h1
    subst this
    exact ⟨t, p, rfl, h2, h3⟩
/-- the worths behind the bites -/
def wB (b : List Int) (p : Nat × Nat) : Nat := worthL (behindL b p.1 p.2)
theorem worth_mex (b : List Int) : worthL b = mex ((bitesL b).map (wB b)) := worthL_eq b
/-! ### numbers in a list -/
abbrev vN (l : List Nat) : List V := l.map fun m => V.int (m : Nat)
theorem inV_nat (m : Nat) : ∀ l : List Nat, inV (.int (m : Nat)) (vN l) = decide (m ∈ l)
  | [] => rfl
  | x :: l => by
    have ih := inV_nat m l
    unfold inV at *
    rw [vN, List.map_cons, List.any_cons, ih]
    by_cases e : m = x
    · subst e
      simp [eqV]
    · have : ((x : Int) == (m : Int)) = false := beq_eq_false_iff_ne.mpr fun z => e (by omega)
      simp [eqV, this, e]
theorem flat_nat : ∀ l : List Nat, (vN l).all flatV = true
  | [] => rfl
  | _ :: l => by
    rw [vN, List.map_cons, List.all_cons, flat_nat l]
    rfl
/-! ### a place among the bites -/
theorem any_tup (e : List Int) : ∀ ds : List (List Int), ((dT ds).any fun z => PyData.eqv z (.tuple (dI e))) = decide (e ∈ ds)
  | [] => rfl
  | d :: ds => by
    rw [dT, List.map_cons, List.any_cons, any_tup e ds, eqv_tup]
    by_cases h : e = d
    · subst h
      simp
    · have h' : ¬ d = e := fun z => h z.symm
      simp [h, h']
theorem pr_mem {ps : List (Nat × Nat)} {r c : Nat} : pr (r, c) ∈ ps.map pr ↔ (r, c) ∈ ps := by
  constructor
  · intro h
    obtain ⟨p, hp, e⟩ := List.mem_map.mp h
    have e : [(p.1 : Int), (p.2 : Int)] = [(r : Int), (c : Int)] := e
    injection e with e1 e2
    injection e2 with e2 _
    have : p = (r, c) := Prod.ext (by show p.1 = r; omega) (by show p.2 = c; omega)
    rw [← this]
    exact hp
  · exact fun h => List.mem_map_of_mem h
/-! ### adding by figures of two without carrying -/
theorem xor_odd (a b : Nat) : (a ^^^ b) % 2 = (a + b) % 2 := by
  have h : (a ^^^ b) % 2 = ((a % 2) ^^^ (b % 2)) % 2 := by
    have h1 : ((a ^^^ b) % 2 ^ 1) = (a % 2 ^ 1) ^^^ (b % 2 ^ 1) := Nat.xor_mod_two_pow
    have h2 : ((a % 2 ^ 1) ^^^ (b % 2 ^ 1)) < 2 ^ 1 := Nat.xor_lt_two_pow (Nat.mod_lt _ (by decide)) (Nat.mod_lt _ (by decide))
    rw [show (2 : Nat) = 2 ^ 1 from rfl, h1]
    exact (Nat.mod_eq_of_lt h2).symm
  rw [h]
  rcases Nat.mod_two_eq_zero_or_one a with ha | ha <;> rcases Nat.mod_two_eq_zero_or_one b with hb | hb <;> rw [ha, hb] <;> first | (show (0 : Nat) = _; omega) | (show (1 : Nat) = _; omega)
theorem xor_step (a b : Nat) : a ^^^ b = (if a % 2 = b % 2 then 0 else 1) + 2 * ((a / 2) ^^^ (b / 2)) := by
  have h1 : (a ^^^ b) / 2 = a / 2 ^^^ b / 2 := Nat.xor_div_two
  have h2 := xor_odd a b
  rw [← h1]
  split <;> omega
theorem xor_shift (a b j : Nat) : (a ^^^ b) / 2 ^ j = (a / 2 ^ j) ^^^ (b / 2 ^ j) := by
  rw [← Nat.shiftRight_eq_div_pow, ← Nat.shiftRight_eq_div_pow, ← Nat.shiftRight_eq_div_pow, Nat.shiftRight_xor_distrib]
/-- how many of ws have the figure f -/
def cntBit (ws : List Nat) (f : Nat) : Nat := (ws.filter fun x => decide (x / f % 2 = 1)).length
def xorL (ws : List Nat) : Nat := ws.foldr (· ^^^ ·) 0
theorem xorL_bit (j : Nat) : ∀ ws : List Nat, xorL ws / 2 ^ j % 2 = cntBit ws (2 ^ j) % 2
  | [] => by
    show 0 / 2 ^ j % 2 = 0 % 2
    rw [Nat.zero_div]
  | x :: ws => by
    have ih := xorL_bit j ws
    show (x ^^^ xorL ws) / 2 ^ j % 2 = _
    rw [xor_shift, xor_odd]
    unfold cntBit at *
    rw [List.filter_cons]
    by_cases h : x / 2 ^ j % 2 = 1
    · rw [if_pos (decide_eq_true h), List.length_cons]
      omega
    · rw [if_neg (by rw [decide_eq_false h]; exact Bool.false_ne_true)]
      omega
theorem xorL_lt : ∀ {ws : List Nat}, (∀ x ∈ ws, x < 128) → xorL ws < 128
  | [], _ => by decide
  | x :: ws, h => by
    have h1 := h x List.mem_cons_self
    have h2 := xorL_lt fun y hy => h y (List.mem_cons_of_mem _ hy)
    exact Nat.xor_lt_two_pow (n := 7) h1 h2
def figs : List Nat := [1, 2, 4, 8, 16, 32, 64]
def addF (ws fs : List Nat) : Nat := (fs.map fun f => f * (cntBit ws f % 2)).sum
theorem addF_more {ws fs : List Nat} {i f : Nat} (h : fs[i]? = some f) : addF ws (fs.take (i + 1)) = addF ws (fs.take i) + f * (cntBit ws f % 2) := by
  unfold addF
  rw [take_more h, List.map_append, List.sum_append]
  simp
theorem addF_all {ws : List Nat} (h : ∀ x ∈ ws, x < 128) : addF ws figs = xorL ws := by
  have h0 := xorL_bit 0 ws
  have h1 := xorL_bit 1 ws
  have h2 := xorL_bit 2 ws
  have h3 := xorL_bit 3 ws
  have h4 := xorL_bit 4 ws
  have h5 := xorL_bit 5 ws
  have h6 := xorL_bit 6 ws
  have hl := xorL_lt h
  have e : addF ws figs = 1 * (cntBit ws (2 ^ 0) % 2) + (2 * (cntBit ws (2 ^ 1) % 2) + (4 * (cntBit ws (2 ^ 2) % 2) + (8 * (cntBit ws (2 ^ 3) % 2) + (16 * (cntBit ws (2 ^ 4) % 2) + (32 * (cntBit ws (2 ^ 5) % 2) + (64 * (cntBit ws (2 ^ 6) % 2) + 0)))))) := rfl
  rw [e, ← h0, ← h1, ← h2, ← h3, ← h4, ← h5, ← h6]
  generalize xorL ws = n at hl
  omega
/-! ### tables: lists of lists of ints -/
abbrev LL (H : Hp) (xs : List V) (ds : List (List Int)) : Prop := Paired (fun (x : V) (d : List Int) => ∃ t, x = .ref t ∧ H t = some (.lst (d.map V.int))) xs ds
theorem LL.keep {H H' : Hp} (k : ∀ t xs, H t = some (.lst xs) → H' t = some (.lst xs)) {xs : List V} {ds : List (List Int)} (h : LL H xs ds) : LL H' xs ds :=
  Paired.mapP h fun _ _ ⟨t, e, z⟩ => ⟨t, e, k _ _ z⟩
theorem LL.keepM {H H' : Hp} : ∀ {xs : List V} {ds : List (List Int)}, LL H xs ds → (∀ t l, V.ref t ∈ xs → H t = some (.lst l) → H' t = some (.lst l)) → LL H' xs ds
  | _, _, Paired.nil, _ => Paired.nil
  | _, _, Paired.cons ⟨t, e, h⟩ r, k => Paired.cons ⟨t, e, k t _ (by rw [e]; exact List.mem_cons_self) h⟩ (LL.keepM r fun u l hu => k u l (List.mem_cons_of_mem _ hu))
theorem LL.same {H H' : Hp} (s : Same H H') {xs : List V} {ds : List (List Int)} (h : LL H xs ds) : LL H' xs ds := LL.keep (fun t xs e => s _ _ e) h
theorem LL.but {H H' : Hp} {d : Addr} {kvs : List (List Key × V)} (s : But d H H') (hd : H d = some (.dT kvs)) {xs : List V} {ds : List (List Int)} (h : LL H xs ds) : LL H' xs ds :=
  LL.keep (fun t xs e => s _ _ (ne_of e hd (by intro z; cases z)) e) h
theorem LL.length {H : Hp} {xs : List V} {ds : List (List Int)} (h : LL H xs ds) : xs.length = ds.length := Paired.length h
theorem LL.snoc {H : Hp} : ∀ {xs : List V} {ds : List (List Int)} {t : Addr} {d : List Int}, LL H xs ds → H t = some (.lst (d.map V.int)) → LL H (xs ++ [.ref t]) (ds ++ [d])
  | _, _, t, d, Paired.nil, e => Paired.cons ⟨t, rfl, e⟩ Paired.nil
  | _, _, t, d, Paired.cons r h, e => Paired.cons r (LL.snoc h e)
theorem LL.at {H : Hp} : ∀ {xs : List V} {ds : List (List Int)} {i : Nat} {x : V}, LL H xs ds → xs[i]? = some x → ∃ t d, ds[i]? = some d ∧ x = .ref t ∧ H t = some (.lst (d.map V.int))
  | _, _, i, x, Paired.nil, e => by simp at e
  | _, _, 0, x, Paired.cons ⟨t, h1, h2⟩ _, e => by
    obtain rfl := Option.some.inj e
    exact ⟨t, _, rfl, h1, h2⟩
  | _, _, i + 1, x, Paired.cons _ r, e => by
    obtain ⟨t, d, h1, h2, h3⟩ := LL.at (i := i) r (by simpa using e)
    exact ⟨t, d, by simpa using h1, h2, h3⟩
theorem LL.get {H : Hp} : ∀ {xs : List V} {ds : List (List Int)} {i : Nat} {d : List Int}, LL H xs ds → ds[i]? = some d → ∃ t, xs[i]? = some (.ref t) ∧ H t = some (.lst (d.map V.int))
  | _, _, i, d, Paired.nil, e => by simp at e
  | _, _, 0, d, Paired.cons ⟨t, h1, h2⟩ _, e => by
    obtain rfl := Option.some.inj e
    exact ⟨t, by rw [h1]; rfl, h2⟩
  | _, _, i + 1, d, Paired.cons _ r, e => by
    obtain ⟨t, h1, h2⟩ := LL.get (i := i) r (by simpa using e)
    exact ⟨t, by simpa using h1, h2⟩
theorem dp_lls {K : PySem.W.Frag} {H : Hp} : ∀ {xs : List V} {ds : List (List Int)}, LL H xs ds → DpAll K H xs (dL ds)
  | _, _, Paired.nil => .nil
  | _, _, Paired.cons ⟨t, e, h⟩ r => by
    subst e
    exact .cons (.lst (SqL.of h) (dp_ints _)) (dp_lls r)
theorem dp_table {K : PySem.W.Frag} {H : Hp} {a : Addr} {xs : List V} {ds : List (List Int)} (h : SqL K H a xs) (t : LL H xs ds) : Dp K H (.ref a) (.list (dL ds)) := .lst h (dp_lls t)
theorem eqv_table (ns ms : List (List Int)) : PyData.eqv (.list (dL ns)) (.list (dL ms)) = decide (ns = ms) := by rw [PyData.eqv, eqv_lists]
/-- a table: at most three bars -/
structure IsTable (ds : List (List Int)) : Prop where
  le : ds.length ≤ 3
  is : ∀ d ∈ ds, IsBar 5 d
/-- all of these lists are new -/
def NewL (H : Hp) (xs : List V) : Prop := ∀ x ∈ xs, ∀ t, x = V.ref t → H t = none
/-- [list(bar) for bar in table], the table at T, the block's own name in slot j, the new list at D -/
theorem copy_loop {K : PySem.W.Frag} {σ : L2.St} {H : Hp} {Qd : Hp → Prop} {j : Nat} {T D : Addr} {xs : List V} {ds : List (List Int)} (hj : j < σ.length) (hT : SqL K H T xs) (ll : LL H xs ds) (hl : xs.length ≤ 1000) (nD : H D = none)
    (q : ∀ H' ys, Same H H' → H' D = some (.lst ys) → LL H' ys ds → NewL H ys → V.ref D ∉ ys → Qd H') :
    ∃ W : Nat → Nat → Hp → Prop, (∃ m, W 0 m (upd H D (.lst []))) ∧ ∀ i m H, W i m H →
      ((Itl K T).stop i H ∧ Qd H) ∨ ((Itl K T).go i H ∧ ∃ Nx : Hp → Prop, (∀ H', Nx H' → ∃ m', m' < m ∧ W (i + 1) m' H') ∧ ∀ x H', (Itl K T).yld i H x H' → (gName j) x (wipe σ [j]) H' fun σ2 H2 => wipe σ2 [j] = wipe σ [j] ∧ tYes σ2 H2 fun b H3 =>
        if b = true then (tCB (fun xs H Q => ∃ p ys, xs = [V.ref p] ∧ (SqL K H p ys ∨ SqT K H p ys) ∧ ∀ l, H l = none → Q (V.ref l) (upd H l (.lst ys))) (tCons (tVar j) tNil)) σ2 H3 fun y H4 => ∃ acc, H4 D = some (.lst acc) ∧ acc.length < sizeLine ∧ Nx (upd H4 D (.lst (acc ++ [y]))) else Nx H3) := by
  refine lc_list (K := K) (a := T) (xs := xs) (fun n H' => ∃ ys : List V, Same H H' ∧ H' D = some (.lst ys) ∧ LL H' ys (ds.take n) ∧ NewL H ys ∧ ys.length = n ∧ V.ref D ∉ ys) ⟨[], sNew nD, upd_same, Paired.nil, fun x hx => (nomatch hx), rfl, by simp⟩ (fun n H' _ ⟨_, s, _⟩ => s.seq hT) ?_ ?_
  · rintro n x H1 hn ⟨ys, s1, hD, ly, ny, el, nm⟩
    obtain ⟨t, d, hd, rfl, ht⟩ := ll.at hn
    refine ⟨?_, yesT ?_⟩
    · show wipe ((wipe σ [j]).set j _) [j] = wipe σ [j]
      show ((σ.set j none).set j _).set j none = σ.set j none
      rw [List.set_set, List.set_set]
    have hw : ((wipe σ [j]).set j (some (V.ref t)))[j]? = some (some (V.ref t)) := by
      rw [List.getElem?_set_self (by show j < (σ.set j none).length; rw [List.length_set]; exact hj)]
    refine ⟨_, hw, t, _, rfl, .inl (SqL.of (s1 _ _ ht)), fun l nl => ?_⟩
    have Dl : D ≠ l := ne_of_none hD nl
    have hn' : n < xs.length := (List.getElem?_eq_some_iff.mp hn).1
    refine ⟨ys, by rw [upd_ne Dl]; exact hD, small' (by omega), ys ++ [.ref l], sPut (sThen s1 nl) nD, upd_same, ?_, ?_, by rw [List.length_append, el]; rfl, fun z => ?_⟩
    · rw [take_more hd]
      refine LL.snoc (LL.keepM ly fun c cs hm e => ?_) (by rw [upd_ne Dl.symm, upd_same])
      have h1 : c ≠ D := fun z => nm (by rw [← z]; exact hm)
      rw [upd_ne h1, upd_ne (ne_of_none e nl)]
      exact e
    · intro y hy u e
      rcases List.mem_append.mp hy with h | h
      · exact ny y h u e
      · have := List.mem_singleton.mp h
        rw [this] at e
        have : l = u := V.ref.inj e
        rw [← this]
        exact s1.free nl
    · rcases List.mem_append.mp z with h | h
      · exact nm h
      · exact Dl (V.ref.inj (List.mem_singleton.mp h))
  · rintro H1 ⟨ys, s1, hD, ly, ny, el, nm⟩
    rw [ll.length, List.take_length] at ly
    exact q H1 ys s1 hD ly ny nm
/-- the worths of a table's bars -/
def worthsL (ds : List (List Int)) : List Nat := ds.map worthL
theorem worth_le {b : List Int} (h : IsBar 5 b) : worthL b ≤ 25 := by
  have hw := mex_spec ((bitesL b).map (wB b))
  rw [← worth_mex] at hw
  have h1 := length_le_of_sub (l := List.range (worthL b)) (m := (bitesL b).map (wB b)) List.nodup_range fun x hx => hw.2 x (List.mem_range.mp hx)
  have h2 := bitesL_len h
  rw [List.length_range, List.length_map] at h1
  omega
theorem worths_lt {ds : List (List Int)} (h : ∀ d ∈ ds, IsBar 5 d) : ∀ x ∈ worthsL ds, x < 128 := fun x hx => by
  obtain ⟨d, hd, rfl⟩ := List.mem_map.mp hx
  have := worth_le (h d hd)
  omega
theorem xorL_snoc (x : Nat) : ∀ l : List Nat, xorL (l ++ [x]) = xorL l ^^^ x
  | [] => by
    show x ^^^ 0 = 0 ^^^ x
    rw [Nat.xor_comm]
  | y :: l => by
    show y ^^^ xorL (l ++ [x]) = (y ^^^ xorL l) ^^^ x
    rw [xorL_snoc x l, Nat.xor_assoc]
/-! ### winning bites -/
def isWin (tot : Nat) (d : List Int) (p : Nat × Nat) : Bool := decide (wB d p = tot ^^^ worthL d)
def tri (n : Nat) (p : Nat × Nat) : List Int := [(n : Int), (p.1 : Int), (p.2 : Int)]
def winBar (tot n : Nat) (d : List Int) (bs : List (Nat × Nat)) : List (List Int) := (bs.filter (isWin tot d)).map (tri n)
def winFrom (tot : Nat) : Nat → List (List Int) → List (List Int)
  | _, [] => []
  | n, d :: ds => winBar tot n d (bitesL d) ++ winFrom tot (n + 1) ds
def winL (ds : List (List Int)) : List (List Int) := winFrom (xorL (worthsL ds)) 0 ds
theorem winFrom_snoc (tot : Nat) (d : List Int) : ∀ (n : Nat) (l : List (List Int)), winFrom tot n (l ++ [d]) = winFrom tot n l ++ winBar tot (n + l.length) d (bitesL d)
  | n, [] => by simp [winFrom]
  | n, e :: l => by
    rw [List.cons_append, winFrom, winFrom, winFrom_snoc tot d (n + 1) l, List.append_assoc, List.length_cons, Nat.add_assoc, Nat.add_comm 1 l.length]
theorem winFrom_more (tot : Nat) {ds : List (List Int)} {i : Nat} {d : List Int} (h : ds[i]? = some d) : winFrom tot 0 (ds.take (i + 1)) = winFrom tot 0 (ds.take i) ++ winBar tot i d (bitesL d) := by
  have hi : i < ds.length := (List.getElem?_eq_some_iff.mp h).1
  rw [take_more h, winFrom_snoc, List.length_take, Nat.min_eq_left (Nat.le_of_lt hi), Nat.zero_add]
theorem winBar_more (tot n : Nat) (d : List Int) {bs : List (Nat × Nat)} {j : Nat} {p : Nat × Nat} (h : bs[j]? = some p) : winBar tot n d (bs.take (j + 1)) = winBar tot n d (bs.take j) ++ if isWin tot d p = true then [tri n p] else [] := by
  unfold winBar
  rw [take_more h, List.filter_append, List.map_append]
  cases e : isWin tot d p <;> simp [e]
theorem winBar_len (tot n : Nat) (d : List Int) (bs : List (Nat × Nat)) : (winBar tot n d bs).length ≤ bs.length := by
  unfold winBar
  rw [List.length_map]
  exact List.length_filter_le _ _
theorem winFrom_len (tot : Nat) : ∀ (n : Nat) (l : List (List Int)), (∀ d ∈ l, IsBar 5 d) → (winFrom tot n l).length ≤ 25 * l.length
  | _, [], _ => Nat.zero_le _
  | n, d :: l, h => by
    have h1 := winBar_len tot n d (bitesL d)
    have h2 := bitesL_len (h d List.mem_cons_self)
    have h3 := winFrom_len tot (n + 1) l fun e he => h e (List.mem_cons_of_mem _ he)
    rw [winFrom, List.length_append, List.length_cons]
    omega
theorem xorL_append (a b : List Nat) : xorL (a ++ b) = xorL a ^^^ xorL b := by
  induction a with
  | nil =>
    show xorL b = 0 ^^^ xorL b
    rw [Nat.xor_comm, Nat.xor_zero]
  | cons x a ih =>
    show x ^^^ xorL (a ++ b) = (x ^^^ xorL a) ^^^ xorL b
    rw [ih, Nat.xor_assoc]
theorem xor_cancel (a b : Nat) : a ^^^ b ^^^ b = a := by rw [Nat.xor_assoc, Nat.xor_self, Nat.xor_zero]
theorem xor_zero_iff {a b : Nat} : a ^^^ b = 0 ↔ a = b := by
  constructor
  · intro h
    have := xor_cancel a b
    rw [h, Nat.xor_comm, Nat.xor_zero] at this
    exact this.symm
  · rintro rfl
    exact Nat.xor_self a
/-- a worth put in another's place: all come to nought just where it is what is left of the sum -/
theorem put_zero {ws : List Nat} {n w x : Nat} (h : ws[n]? = some w) : xorL (ws.take n ++ [x] ++ ws.drop (n + 1)) = 0 ↔ x = xorL ws ^^^ w := by
  obtain ⟨hi, e⟩ := List.getElem?_eq_some_iff.mp h
  have hs : ws = ws.take n ++ [w] ++ ws.drop (n + 1) := by
    rw [List.append_assoc, List.singleton_append, ← e, ← List.drop_eq_getElem_cons hi, List.take_append_drop]
  have one : ∀ y : Nat, xorL [y] = y := fun y => Nat.xor_zero y
  have e1 : xorL (ws.take n ++ [x] ++ ws.drop (n + 1)) = (xorL (ws.take n) ^^^ xorL (ws.drop (n + 1))) ^^^ x := by
    rw [xorL_append, xorL_append, one, Nat.xor_assoc, Nat.xor_comm x, Nat.xor_assoc]
  have e2 : xorL ws = (xorL (ws.take n) ^^^ xorL (ws.drop (n + 1))) ^^^ w := by
    conv => lhs; rw [hs]
    rw [xorL_append, xorL_append, one, Nat.xor_assoc, Nat.xor_comm w, Nat.xor_assoc]
  rw [e1, xor_zero_iff, e2, xor_cancel]
  exact eq_comm
/-! ### two places that change -/
def But2 (d f : Addr) (H H' : Hp) : Prop := ∀ b o, b ≠ d → b ≠ f → H b = some o → H' b = some o
theorem But2.refl {d f : Addr} {H : Hp} : But2 d f H H := fun _ _ _ _ h => h
theorem But2.trans {d f : Addr} {H H1 H2 : Hp} (a : But2 d f H H1) (b : But2 d f H1 H2) : But2 d f H H2 := fun c o n m h => b c o n m (a c o n m h)
theorem But2.same {d f : Addr} {H H' : Hp} (s : Same H H') : But2 d f H H' := fun b o _ _ h => s b o h
theorem But2.but {d f : Addr} {H H' : Hp} (s : But d H H') : But2 d f H H' := fun b o n _ h => s b o n h
theorem But2.at {d f : Addr} {H : Hp} {o : HO} : But2 d f H (upd H f o) := fun b u _ n h => by
  rw [upd_ne n]
  exact h
theorem But2.same0 {d f : Addr} {H0 H H' : Hp} (s : Same H0 H) (hd : H0 d = none) (hf : H0 f = none) (b : But2 d f H H') : Same H0 H' := fun c o e => b c o (ne_of_none e hd) (ne_of_none e hf) (s c o e)
theorem But2.kt {d f : Addr} {H H' : Hp} {kvs : List (List Key × V)} {ys : List V} (b : But2 d f H H') (hd : H d = some (.dT kvs)) (hf : H f = some (.lst ys)) : KT H H' := fun t xs e =>
  b t _ (ne_of e hd (by intro z; cases z)) (ne_of e hf (by intro z; cases z)) e
theorem for_enum {K : PySem.W.Frag} {a : Addr} {xs : List V} {g : TG} {tb : TS} {D : Ends} {σ : L2.St} {H : Hp} (Pv : Nat → L2.St → Hp → Prop) (h0 : Pv 0 σ H) (hl : ∀ i σ H, i ≤ xs.length → Pv i σ H → SqL K H a xs)
    (hs : ∀ i x σ H T, xs[i]? = some x → Pv i σ H → H T = none → g (.ref T) σ (upd H T (.tup [.int (i : Nat), x])) fun σ2 H2 => tb { D with nx := Pv (i + 1), ct := Pv (i + 1), bk := D.nx } σ2 H2) (hd : ∀ σ H, Pv xs.length σ H → D.nx σ H) :
    ∃ W : Nat → Nat → L2.St → Hp → Prop, (∃ m, W 0 m σ H) ∧ ∀ i m σ H, W i m σ H →
      ((Ite K a).stop i H ∧ D.nx σ H) ∨ ((Ite K a).go i H ∧ ∃ N : L2.St → Hp → Prop, (∀ σ' H', N σ' H' → ∃ m', m' < m ∧ W (i + 1) m' σ' H') ∧ ∀ x H', (Ite K a).yld i H x H' → g x σ H' fun σ2 H2 => tb { D with nx := N, ct := N, bk := D.nx } σ2 H2) := by
  refine ⟨fun i m σ H => m = xs.length - i ∧ i ≤ xs.length ∧ Pv i σ H, ⟨xs.length, by simp, Nat.zero_le _, h0⟩, ?_⟩
  rintro i m σ H ⟨rfl, hi, p⟩
  have q := hl i σ H hi p
  by_cases hlt : i < xs.length
  · refine .inr ⟨⟨xs, xs[i], q, by simp [hlt]⟩, Pv (i + 1), fun σ' H' p' => ⟨xs.length - (i + 1), by omega, rfl, hlt, p'⟩, fun x H' y => ?_⟩
    obtain ⟨T, x', rfl, nT, rfl, y⟩ := y
    exact hs i x' σ H T (y xs q) p nT
  · have e : i = xs.length := by omega
    subst e
    exact .inl ⟨⟨xs, q, Nat.le_refl _⟩, hd σ H p⟩
/-! ### all spots, the play -/
def spotsFrom : Nat → List (List Int) → List (List Int)
  | _, [] => []
  | n, d :: ds => (bitesL d).map (tri n) ++ spotsFrom (n + 1) ds
def spots (ds : List (List Int)) : List (List Int) := spotsFrom 0 ds
theorem spotsFrom_snoc (d : List Int) : ∀ (n : Nat) (l : List (List Int)), spotsFrom n (l ++ [d]) = spotsFrom n l ++ (bitesL d).map (tri (n + l.length))
  | n, [] => by simp [spotsFrom]
  | n, e :: l => by
    rw [List.cons_append, spotsFrom, spotsFrom, spotsFrom_snoc d (n + 1) l, List.append_assoc, List.length_cons, Nat.add_assoc, Nat.add_comm 1 l.length]
theorem spots_more {ds : List (List Int)} {i : Nat} {d : List Int} (h : ds[i]? = some d) : spots (ds.take (i + 1)) = spots (ds.take i) ++ (bitesL d).map (tri i) := by
  have hi : i < ds.length := (List.getElem?_eq_some_iff.mp h).1
  unfold spots
  rw [take_more h, spotsFrom_snoc, List.length_take, Nat.min_eq_left (Nat.le_of_lt hi), Nat.zero_add]
theorem mem_spotsFrom {e : List Int} : ∀ {k : Nat} {ds : List (List Int)}, e ∈ spotsFrom k ds → ∃ n d p, ds[n]? = some d ∧ p ∈ bitesL d ∧ e = tri (k + n) p
  | _, [], h => nomatch h
  | k, d :: ds, h => by
    rw [spotsFrom] at h
    rcases List.mem_append.mp h with h | h
    · obtain ⟨p, hp, rfl⟩ := List.mem_map.mp h
      exact ⟨0, d, p, rfl, hp, rfl⟩
    · obtain ⟨n, c, p, h1, h2, h3⟩ := mem_spotsFrom h
      exact ⟨n + 1, c, p, by simpa using h1, h2, by rw [h3]; unfold tri; congr 1; omega⟩
theorem mem_spots {e : List Int} {ds : List (List Int)} (h : e ∈ spots ds) : ∃ n d p, ds[n]? = some d ∧ p ∈ bitesL d ∧ e = tri n p := by
  obtain ⟨n, d, p, h1, h2, h3⟩ := mem_spotsFrom h
  rw [Nat.zero_add] at h3
  exact ⟨n, d, p, h1, h2, h3⟩
theorem spotsFrom_len : ∀ (n : Nat) (l : List (List Int)), (∀ d ∈ l, IsBar 5 d) → (spotsFrom n l).length ≤ 25 * l.length
  | _, [], _ => Nat.zero_le _
  | n, d :: l, h => by
    have h2 := bitesL_len (h d List.mem_cons_self)
    have h3 := spotsFrom_len (n + 1) l fun e he => h e (List.mem_cons_of_mem _ he)
    rw [spotsFrom, List.length_append, List.length_cons, List.length_map]
    omega
theorem spotsFrom_none : ∀ {k : Nat} {ds : List (List Int)}, spotsFrom k ds = [] → xorL (worthsL ds) = 0
  | _, [], _ => rfl
  | k, d :: ds, h => by
    rw [spotsFrom] at h
    obtain ⟨h1, h2⟩ := List.append_eq_nil_iff.mp h
    have ih := spotsFrom_none h2
    have hb : bitesL d = [] := List.map_eq_nil_iff.mp h1
    have hw : worthL d = 0 := by
      rw [worth_mex, hb]
      rfl
    show worthL d ^^^ xorL (worthsL ds) = 0
    rw [hw, ih]
    rfl
theorem mem_winFrom {e : List Int} {tot : Nat} : ∀ {k : Nat} {ds : List (List Int)}, e ∈ winFrom tot k ds → ∃ n d p, ds[n]? = some d ∧ p ∈ bitesL d ∧ wB d p = tot ^^^ worthL d ∧ e = tri (k + n) p
  | _, [], h => nomatch h
  | k, d :: ds, h => by
    rw [winFrom] at h
    rcases List.mem_append.mp h with h | h
    · obtain ⟨p, hp, rfl⟩ := List.mem_map.mp h
      obtain ⟨h1, h2⟩ := List.mem_filter.mp hp
      exact ⟨0, d, p, rfl, h1, of_decide_eq_true h2, rfl⟩
    · obtain ⟨n, c, p, h1, h2, h3, h4⟩ := mem_winFrom h
      exact ⟨n + 1, c, p, by simpa using h1, h2, h3, by rw [h4]; unfold tri; congr 1; omega⟩
theorem winFrom_has {tot : Nat} {p : Nat × Nat} {d : List Int} (hp : p ∈ bitesL d) (hw : wB d p = tot ^^^ worthL d) : ∀ {k n : Nat} {ds : List (List Int)}, ds[n]? = some d → winFrom tot k ds ≠ []
  | _, _, [], h => by simp at h
  | k, 0, c :: ds, h => by
    obtain rfl := Option.some.inj h
    rw [winFrom]
    intro z
    have h1 := (List.append_eq_nil_iff.mp z).1
    have h2 : p ∈ (bitesL c).filter (isWin tot c) := List.mem_filter.mpr ⟨hp, decide_eq_true hw⟩
    rw [List.map_eq_nil_iff.mp h1] at h2
    cases h2
  | k, n + 1, c :: ds, h => by
    rw [winFrom]
    intro z
    exact winFrom_has hp hw (k := k + 1) (by simpa using h) (List.append_eq_nil_iff.mp z).2
theorem nim3 : (List.range 26).all (fun a => (List.range 26).all fun b => (List.range 26).all fun c => decide (a ^^^ (b ^^^ c) = 0) || decide ((a ^^^ (b ^^^ c)) ^^^ a < a) || decide ((a ^^^ (b ^^^ c)) ^^^ b < b) || decide ((a ^^^ (b ^^^ c)) ^^^ c < c)) = true := by decide +kernel
theorem nim_at {a b c : Nat} (ha : a ≤ 25) (hb : b ≤ 25) (hc : c ≤ 25) (h : a ^^^ (b ^^^ c) ≠ 0) : (a ^^^ (b ^^^ c)) ^^^ a < a ∨ (a ^^^ (b ^^^ c)) ^^^ b < b ∨ (a ^^^ (b ^^^ c)) ^^^ c < c := by
  have q := List.all_eq_true.mp (List.all_eq_true.mp (List.all_eq_true.mp nim3 a (List.mem_range.mpr (by omega))) b (List.mem_range.mpr (by omega))) c (List.mem_range.mpr (by omega))
  rw [decide_eq_false h, Bool.false_or, Bool.or_eq_true, Bool.or_eq_true, decide_eq_true_eq, decide_eq_true_eq, decide_eq_true_eq] at q
  rcases q with (q | q) | q
  · exact .inl q
  · exact .inr (.inl q)
  · exact .inr (.inr q)
theorem nim_list {ws : List Nat} (hl : ws.length ≤ 3) (h25 : ∀ x ∈ ws, x ≤ 25) (h : xorL ws ≠ 0) : ∃ n w : Nat, ws[n]? = some w ∧ xorL ws ^^^ w < w := by
  match ws, hl with
  | [], _ => exact absurd rfl h
  | [a], _ =>
    have e : xorL [a] = a ^^^ (0 ^^^ 0) := rfl
    rw [e] at h ⊢
    rcases nim_at (h25 a (by simp)) (Nat.zero_le _) (Nat.zero_le _) h with q | q | q
    · exact ⟨0, a, rfl, q⟩
    · exact absurd q (Nat.not_lt_zero _)
    · exact absurd q (Nat.not_lt_zero _)
  | [a, b], _ =>
    have e : xorL [a, b] = a ^^^ (b ^^^ 0) := rfl
    rw [e] at h ⊢
    rcases nim_at (h25 a (by simp)) (h25 b (by simp)) (Nat.zero_le _) h with q | q | q
    · exact ⟨0, a, rfl, q⟩
    · exact ⟨1, b, rfl, q⟩
    · exact absurd q (Nat.not_lt_zero _)
  | [a, b, c], _ =>
    have e : xorL [a, b, c] = a ^^^ (b ^^^ c) := by
      show a ^^^ (b ^^^ (c ^^^ 0)) = _
      rw [Nat.xor_zero]
    rw [e] at h ⊢
    rcases nim_at (h25 a (by simp)) (h25 b (by simp)) (h25 c (by simp)) h with q | q | q
    · exact ⟨0, a, rfl, q⟩
    · exact ⟨1, b, rfl, q⟩
    · exact ⟨2, c, rfl, q⟩
  | _ :: _ :: _ :: _ :: _, hl =>
    simp at hl
/-- POINT 8: where the worth is not nought there is a winning bite -/
theorem win_there {ds : List (List Int)} (it : IsTable ds) (h : xorL (worthsL ds) ≠ 0) : winL ds ≠ [] := by
  obtain ⟨n, x, hn, hx⟩ := nim_list (ws := worthsL ds) (by unfold worthsL; rw [List.length_map]; exact it.le) (fun x hx => by
    obtain ⟨d, hd, rfl⟩ := List.mem_map.mp hx
    exact worth_le (it.is d hd)) h
  unfold worthsL at hn
  rw [List.getElem?_map] at hn
  cases e : ds[n]? with
  | none => rw [e] at hn; cases hn
  | some d =>
    rw [e] at hn
    obtain rfl : worthL d = x := Option.some.inj hn
    have hw := mex_spec ((bitesL d).map (wB d))
    rw [← worth_mex] at hw
    obtain ⟨p, hp, ep⟩ := List.mem_map.mp (hw.2 _ hx)
    exact winFrom_has hp ep e
theorem xorL_set : ∀ {ws : List Nat} {n w : Nat} (x : Nat), ws[n]? = some w → xorL (ws.set n x) = (xorL ws ^^^ w) ^^^ x
  | [], n, w, x, h => by simp at h
  | y :: ws, 0, w, x, h => by
    obtain rfl := Option.some.inj h
    show x ^^^ xorL ws = ((y ^^^ xorL ws) ^^^ y) ^^^ x
    rw [Nat.xor_comm y (xorL ws), xor_cancel, Nat.xor_comm]
  | y :: ws, n + 1, w, x, h => by
    have ih := xorL_set (ws := ws) (n := n) x (by simpa using h)
    show y ^^^ xorL (ws.set n x) = ((y ^^^ xorL ws) ^^^ w) ^^^ x
    rw [ih, Nat.xor_assoc, Nat.xor_assoc, Nat.xor_assoc]
theorem worths_set {ds : List (List Int)} {n : Nat} {d : List Int} (p : Nat × Nat) (h : ds[n]? = some d) : xorL (worthsL (ds.set n (behindL d p.1 p.2))) = (xorL (worthsL ds) ^^^ worthL d) ^^^ wB d p := by
  unfold worthsL
  rw [List.map_set]
  exact xorL_set _ (by rw [List.getElem?_map, h]; rfl)
def total (ds : List (List Int)) : Nat := (ds.map pieces).sum
theorem total_set : ∀ {ds : List (List Int)} {n : Nat} {d e : List Int}, ds[n]? = some d → pieces e < pieces d → total (ds.set n e) < total ds
  | [], n, d, e, h, _ => by simp at h
  | c :: ds, 0, d, e, h, hl => by
    obtain rfl := Option.some.inj h
    show ((e :: ds).map pieces).sum < ((c :: ds).map pieces).sum
    rw [List.map_cons, List.map_cons, List.sum_cons, List.sum_cons]
    omega
  | c :: ds, n + 1, d, e, h, hl => by
    have ih := total_set (ds := ds) (n := n) (by simpa using h) hl
    unfold total at ih
    show ((c :: ds.set n e).map pieces).sum < ((c :: ds).map pieces).sum
    rw [List.map_cons, List.map_cons, List.sum_cons, List.sum_cons]
    omega
theorem table_set {ds : List (List Int)} (it : IsTable ds) {n : Nat} {e : List Int} (h : IsBar 5 e) : IsTable (ds.set n e) := by
  refine ⟨by rw [List.length_set]; exact it.le, fun d hd => ?_⟩
  rcases List.mem_or_eq_of_mem_set hd with h' | h'
  · exact it.is d h'
  · rw [h']
    exact h
theorem LL.set {H : Hp} {t : Addr} {e : List Int} (he : H t = some (.lst (e.map V.int))) : ∀ {xs : List V} {ds : List (List Int)} (n : Nat), LL H xs ds → LL H (xs.set n (.ref t)) (ds.set n e)
  | _, _, _, Paired.nil => Paired.nil
  | _, _, 0, Paired.cons _ r => Paired.cons ⟨t, rfl, he⟩ r
  | _, _, n + 1, Paired.cons q r => Paired.cons q (LL.set he n r)
theorem eqv_tl_nil (ls : List (List Int)) : PyData.eqv (.list (dT ls)) (.list []) = decide (ls = []) := by
  rw [PyData.eqv]
  cases ls with
  | nil => simp [dT, PyData.eqvAll]
  | cons _ _ => simp [dT, PyData.eqvAll]
theorem shaped_nil : SeqAt.shaped (.list []) = true := shaped_list []
/-! ### errors of own classes -/
/-- nothing is let out around a body -/
theorem nobodyN {X : Cx} : L2N.Takes X (fun _ _ _ _ => False) := fun u s' x => by
  obtain ⟨_, _, _, _, _, _, _, _, _, _, _, _, _, _, _, _, no⟩ := x
  exact False.elim no
section
variable {P : Program} {w : World} {K : PySem.W.Frag} {mg : Str → Option Value} {base : Heap}
/-- a def that lets errors (with no context) out -/
theorem okN {x qual : Str} {st : Stmt} {f : Addr} {fd : FuncData} {N ps : List Str} {k : Nat} {sp : Sp} (F : Fun K x qual st f fd) (S : FnScope N ps (defScope st)) (len : ∀ vs H Q E, sp vs H Q E → vs.length = ps.length)
    (body : ∀ (cdv : Value) (A : Around) (outer : List Env) (s : Shared) (H : Hp) (vs : List V) (Q : VK) (E : XK), Room k (A.deeper (envOfC qual (defScope st) s.heap.objs.size f cdv)) → sp vs H Q E →
      ∃ t, PSs (cxOf (L2N.CX P w) P w K mg base N qual (defScope st) f cdv A outer s H E) (defBody st) t ∧ t { nx := fun _ H2 => Q .non H2, rt := Q } (start N vs) H) : FnOk P w K mg base (L2N.CX P w) (k + 1) f fd ps sp := by
  obtain ⟨_, _, _, _, _, _, cdv, _, _, rfl, lk, cd⟩ := F.ex
  exact fn_of lk cd S len fun A outer s H vs Q E r h => body cdv A outer s H vs Q E r h
end
/-- a call of a def that may let an error out, its slots known -/
theorem pe_cS {X : Cx} {W : WX} {k j : Nat} {x : Str} {ps : List Str} {sp : Sp} {e : Expr} {es : List Expr} {t : TA} {p pos : Pos} (C : Cal X.prog X.w X.K X.mg X.base (L2N.CX X.prog X.w) k x ps sp) (hr : Room j X.A) (hj : k ≤ j) (tk : L2N.Takes X W) (ha : PA X (e :: es) t)
    (hg : Gl X x := by rfl) (hdb : (x == ("__debug__" : Str)) = false := by decide) (he : starEach (e :: es) X.env = (false, eval e X.env) :: starEach es X.env := by rfl) (hpl : (backTo pos (starEach es X.env)).any (·.1) = false := by rfl) :
    PE X (.Call (.Name x p) (e :: es) [] pos) (tCallS sp (WE W) t) := by
  obtain ⟨f, fd, F, gm, kp, bd⟩ := C.ex
  exact pe_callS F (hr.mono hj) hg gm kp bd (fun σ => L2N.passAt tk σ) ha hdb he hpl
/-- what the written part says of an error class D below cB -/
structure Own (K : PySem.W.Frag) (mg : Str → Option Value) (x : Str) (cB D : Addr) : Prop where
  g : mg x = some (.ref D)
  x : PySem.W.excIn K D [.type "ValueError", .type "Exception", .type "BaseException", .type "object"] "ValueError.__new__" = true
  kp : PySem.W.keepIn K (.ref D) = true
  b : PySem.W.subIn K (.ref D) (.type "BaseException") = some true
  ty : PySem.W.typeIn K (.ref D) = some (.type "type")
  m : PySem.W.exmOne K (.ref D) (.ref cB) = some true
/-- raise D('..') -/
theorem ps_own {X : Cx} {W : WX} {K : PySem.W.Frag} {mg : Str → Option Value} {x m : Str} {cB D : Addr} {j : Nat} {p p2 pos pos2 : Pos} (hc : X.calm = true) (T : Own K mg x cB D) (tk : L2N.Takes X W) (hK : X.K = K := by rfl) (hm : X.mg = mg := by rfl) (hg : Gl X x := by rfl)
    (hdb : (x == ("__debug__" : Str)) = false := by decide) : PS X (.Raise (some (.Call (.Name x p) [.Constant (.str m) j p2] [] pos)) none pos2) (fun _ σ H => W (.ref D) none σ H) := by
  subst hK hm
  exact L2N.ps_raise hc tk (L2N.pmk_own PySem.F.excBase_ValueError T.x T.g T.kp (raises_own T.b T.ty) hg hdb)
/-! ### isinstance of the error that an except clause holds -/
theorem call_isP {X : Cx} {K : PySem.W.Frag} {p : Addr × Obj} {D : Addr} (C : ExcC K D) (hp : p ∈ X.pn) (hc : p.2.cls = .ref D) (hd : p.2.dict = none) (hf : ∃ vs, p.2.data = .fields vs) (hK : X.K = K := by rfl) : CallR X (.builtin "isinstance") (rIsE K D p.1) := by
  subst hK
  intro pins s σ H xs us Q I r h
  obtain ⟨a, oe⟩ := p
  obtain ⟨c, cv, b, rfl, same, e, q⟩ := h
  obtain _ | ⟨rx, _ | ⟨rt, _ | _⟩⟩ := r
  cases rx
  have ec := same _ rt
  subst ec
  have at0 := (I.pin (a, oe) (List.mem_append_left _ hp)).1
  have J : PySem.W.InstAt s.heap a oe D none := by
    obtain ⟨vs, ed⟩ := hf
    obtain ⟨o1, o2, o3, o4⟩ := oe
    dsimp only at hc hd ed at0
    subst hc hd ed
    exact ⟨at0, rfl, rfl, trivial⟩
  refine PySem.W.kia_one (PySem.W.handS_kitx_exc C.hg C.hk C.hs C.hd C.ha C.hn C.ht C.hm) I.kIn J e (fun z => nomatch z) fun tk => ?_
  exact ⟨.bl b, H, I.kept (t' := tk) fun _ _ z => z, rfl, q⟩
/-! ### list.count of bools -/
theorem countB {l : List Bool} : ∀ {its : List Value}, Vals (l.map V.bl) its → its = l.map Value.bool := by
  induction l with
  | nil => intro its r; cases r; rfl
  | cons b l ih =>
    intro its r
    cases r with
    | cons rb rr =>
      cases rb
      rw [ih rr]
      rfl
theorem mt_bcount {X : Cx} {K : PySem.W.Frag} (hK : X.K = K := by rfl) : MtR X "list.count" (fun x xs H Q => ∃ (p : Addr) (bs : List Bool) (k : Bool), x = .ref p ∧ xs = [.bl k] ∧ SqL K H p (bs.map V.bl) ∧ Q (.int (bs.countP (· == k) : Nat)) H) := by
  subst hK
  intro pins s σ H x xs v us Q I rx rxs h
  obtain ⟨p, bs, k, rfl, rfl, hs, q⟩ := h
  cases rx
  obtain ⟨u, rfl, ru⟩ := rxs.one
  cases ru
  obtain ⟨its, rv, ⟨⟨c1, c2, c3, c4⟩, n, ho, hc, hdn, hd⟩, _⟩ := I.list hs
  simp only at hc hd
  subst hc hd
  have ei := countB rv
  subst ei
  refine call_meets PySem.F.slot_list_count ⟨_, ho, rfl⟩ PySem.F.entry_list_count (PySem.F.args_list_count_2 _ _)
    (SeqAt.list_countAt p (bs.map Value.bool).toArray n c2 c4 (.bool k) (fun y => match y with | .bool b => b == k | _ => false)) ⟨ho, fun y hy => ?_, ?_⟩
  · obtain ⟨b, _, rfl⟩ := List.mem_map.mp (show y ∈ bs.map Value.bool by simpa using hy)
    exact PySem.SeqAt.EqAt.bool_bool b k
  · refine ⟨.int (bs.countP (· == k) : Nat), H, I.tok _, ⟨s.toks, ?_⟩, q⟩
    show Value.int (((bs.map Value.bool).countP _ : Nat) : Int) s.toks = _
    rw [List.countP_map]
    rfl
/-! ### a def that is called with the error that an except clause holds -/
/-- its promise may speak of the error's object -/
structure FnE (P : Program) (w : World) (K : PySem.W.Frag) (mg : Str → Option Value) (base : Heap) (k : Nat) (f : Addr) (fd : FuncData) (ps : List Str) (sp : Addr × Obj → Sp) : Prop where
  size : ∀ p vs H Q E, sp p vs H Q E → vs.length = ps.length
  go : ∀ (p : Addr × Obj) (A : Around) (outer : List Env) (s : Shared) (H : Hp) (args : Args) (us : List Value) (vs : List V) (Q : VK) (E : XK), L2H.RoomH k A → L2H.Hot1 A p → L2H.PinOk outer H s p → Env0 P w K mg base A outer s H →
    BindsTo s fd args (ps.zip us) → Vals vs us → sp p vs H Q E → codeAny (model P w) A (.call (.ref f) args) (CR CX0 outer P w H s Q E) s
section
variable {P : Program} {w : World} {K : PySem.W.Frag} {mg : Str → Option Value} {base : Heap}
theorem okE {x qual : Str} {st : Stmt} {f : Addr} {fd : FuncData} {N ps : List Str} {k : Nat} {sp : Addr × Obj → Sp} (F : Fun K x qual st f fd) (S : FnScope N ps (defScope st)) (size : ∀ p vs H Q E, sp p vs H Q E → vs.length = ps.length)
    (body : ∀ (cdv : Value) (A : Around) (outer : List Env) (s : Shared) (H : Hp) (vs : List V) (Q : VK) (E : XK) (p : Addr × Obj), L2H.Hot1 A p → L2H.RoomH k (A.deeper (envOfC qual (defScope st) s.heap.objs.size f cdv)) → sp p vs H Q E →
      ∃ t, PSs (L2H.cxH CX0 P w K mg base N qual (defScope st) f cdv A outer s H E p) (defBody st) t ∧ t { nx := fun _ H2 => Q .non H2, rt := Q } (start N vs) H) : FnE P w K mg base (k + 1) f fd ps sp := by
  obtain ⟨_, _, _, _, _, _, cdv, _, _, rfl, lk, cd⟩ := F.ex
  refine ⟨size, ?_⟩
  intro p A outer s H args us vs Q E room hot pin env bt rv hsp
  have KX := env.mod.kin.keeps fun b o e => (env.bs b o e).1
  have NL := env.mod.nolimit.keeps fun b o e => (env.bs b o e).1
  refine codeAny_call_function room.depth (KX _ _ lk) rfl S.co S.gen rfl (PySem.W.codeRec_of KX cd) (bt _ _ _ _ ?_)
  refine wpAny_newFunctionEnv_cells S.kind (fun ⟨n, v⟩ hy => ?_) fun en een s1 x => ?_
  · cases S.par n (List.of_mem_zip hy).1 with
    | inl q => exact .inl q
    | inr q => exact .inr ⟨q, PySem.W.cellsFrom_some _ _ _ (.inl q)⟩
  · subst een
    refine ⟨NL.keeps x.toInCall.keep, codeAny_func ?_⟩
    obtain ⟨t, run, q0⟩ := body cdv A outer s H vs Q E p hot (room.deeper _) hsp
    have I := L2H.inv_startH (CX := CX0) (E := E) S pin env (size _ _ _ _ _ hsp) rv x
    refine wpAny_mono (run.run [] s1 (start N vs) H _ I q0) (fun fl s2 hs => ?_) fun _ _ z => z
    match fl, hs with
    | .ret _, ⟨v, _, H2, J, r, q⟩ => exact ⟨v, H2, J.os, J.bare, J.base, J.hok, r, q⟩
    | .next, ⟨_, H2, J, q⟩ => exact ⟨V.non, H2, J.os, J.bare, J.base, J.hok, rfl, q⟩
    | .brk, ⟨_, _, _, q⟩ => exact False.elim q
    | .cont, ⟨_, _, _, q⟩ => exact False.elim q
end
structure CalE (P : Program) (w : World) (K : PySem.W.Frag) (mg : Str → Option Value) (base : Heap) (k : Nat) (x : Str) (ps : List Str) (sp : Addr × Obj → Sp) : Prop where
  ex : ∃ (f : Addr) (fd : FuncData), FnE P w K mg base k f fd ps sp ∧ mg x = some (.ref f) ∧ PySem.W.keepIn K (.ref f) = true ∧ Binds K fd ps []
def tCallE (sp : Addr × Obj → Sp) (p : Addr × Obj) (t : TA) : TE := fun σ H Q => t σ H fun vs H1 => sp p vs H1 Q E0
theorem pe_cE {X : Cx} {k j : Nat} {x : Str} {ps : List Str} {sp : Addr × Obj → Sp} {q : Addr × Obj} {e : Expr} {es : List Expr} {t : TA} {p pos : Pos} (C : CalE X.prog X.w X.K X.mg X.base k x ps sp) (hr : L2H.RoomH j X.A) (hj : k ≤ j) (hot : L2H.Hot1 X.A q) (hq : q ∈ X.pn) (ha : PA X (e :: es) t)
    (hg : Gl X x := by rfl) (hdb : (x == ("__debug__" : Str)) = false := by decide) (he : starEach (e :: es) X.env = (false, eval e X.env) :: starEach es X.env := by rfl) (hpl : (backTo pos (starEach es X.env)).any (·.1) = false := by rfl) :
    PE X (.Call (.Name x p) (e :: es) [] pos) (tCallE sp q t) := by
  obtain ⟨f, fd, F, gm, kp, bd⟩ := C.ex
  constructor
  intro pins s σ H Q I h
  refine wpAny_Call_Name_kw (ld_glob I hg gm ?_ hdb)
  refine PySem.W.callWith_K (h₀ := X.base) I.ok.mod.kin kp (thn (ha.run pos pins s σ H _ I h) fun us s1 ⟨vs, H1, I1, r, z⟩ => ⟨I1.kIn, ?_⟩) he hpl
  have bl := bd s1 us I1.kIn (by rw [List.append_nil, ← r.length]; exact F.size _ _ _ _ _ z)
  rw [List.append_nil] at bl
  obtain ⟨p1, p2, p3, p4, p5⟩ := I1.pin q (List.mem_append_left _ hq)
  refine wpAny_call (codeAny_mono (F.go q X.A X.stack s1 H1 ⟨us, []⟩ us vs Q E0 (hr.mono hj) hot ⟨p1, p2, fun hm => (List.mem_cons.mp (I1.stkSub q.1 hm)).elim p3 p4, p5⟩ I1.env0 bl r z) fun res s2 hz => ?_)
  match res, hz with
  | .error _, hz => exact False.elim hz
  | .ok (.ret _), hz => exact I1.after hz
  | .ok .next, hz => exact False.elim hz
  | .ok .brk, hz => exact False.elim hz
  | .ok .cont, hz => exact False.elim hz
/-- the four error classes; D is the i-th of them -/
structure Kind (K : PySem.W.Frag) (cs : Nat → Addr) (D : Addr) (i : Nat) : Prop where
  ex : ExcC K D
  v : PySem.W.kitOne K (.ref D) (.type "ValueError") = some true
  k : ∀ j, j < 4 → PySem.W.kitOne K (.ref D) (.ref (cs j)) = some (decide (i = j))
theorem hot_of {A : Around} {a : Addr} {oe : Obj} {cls : Value} {d : Option Addr} (z : L2N.Zn cls d oe) (f : ∃ vs, oe.data = .fields vs) (h : A.handled = some (.ref a)) : L2H.Hot1 A (a, oe) := by
  obtain ⟨vs, e⟩ := f
  exact ⟨h, vs, e, z.2.2 vs e⟩
def words : List Str := ["bar", "bite", "table", "note"]
/-- the four classes, and what stands above them -/
structure Kinds (K : PySem.W.Frag) (mg : Str → Option Value) (cs : Nat → Addr) (cB : Addr) : Prop where
  gB : mg "BiteError" = some (.ref cB)
  o0 : Own K mg "NoBar" cB (cs 0)
  o1 : Own K mg "NoBite" cB (cs 1)
  o2 : Own K mg "NoTable" cB (cs 2)
  o3 : Own K mg "NoNote" cB (cs 3)
  k : ∀ i, i < 4 → Kind K cs (cs i) i
/-- the four answers of isinstance -/
def ansL (i : Nat) : List Bool := [decide (i = 0), decide (i = 1), decide (i = 2), decide (i = 3)]
/-- _law_word_of(e), e the error in hand, of the i-th class -/
def sp_law_word_of (K : PySem.W.Frag) (cs : Nat → Addr) : Addr × Obj → Sp := fun p vs H Q _ => ∃ (D : Addr) (i : Nat) (wd : Str), vs = [.ref p.1] ∧ p.2.cls = .ref D ∧ p.2.dict = none ∧ Kind K cs D i ∧ i < 4 ∧ words[i]? = some wd ∧ ∀ H', Same H H' → Q (.str wd) H'
/-- _law_word_of(e) in an except clause that holds the error at a -/
def tWord (K : PySem.W.Frag) (cs : Nat → Addr) (a : Addr) (cls : Value) (d : Option Addr) (m : Nat) : TE := fun σ H Q => ∃ (D : Addr) (i : Nat) (wd : Str), σ[m]? = some (some (.ref a)) ∧ cls = .ref D ∧ d = none ∧ Kind K cs D i ∧ i < 4 ∧ words[i]? = some wd ∧ ∀ H', Same H H' → Q (.str wd) H'
theorem pe_word {X : Cx} {cs : Nat → Addr} {a : Addr} {oe : Obj} {cls : Value} {d : Option Addr} {pn : List (Addr × Obj)} {j k : Nat} {x : Str} {ps : List Str} {e : Expr} {m : Nat} {p pos : Pos} (C : CalE X.prog X.w X.K X.mg X.base k x ps (sp_law_word_of X.K cs)) (hr : Room j X.A) (hj : k ≤ j) (hz : L2N.Zn cls d oe) (hf : ∃ vs, oe.data = .fields vs)
    (ha : PA (X.suite a ((a, oe) :: pn)) [e] (tCons (tVar m) tNil)) (hg : Gl X x := by rfl) (hdb : (x == ("__debug__" : Str)) = false := by decide) (hs : starEach (e :: []) X.env = (false, eval e X.env) :: starEach [] X.env := by rfl) (hpl : (backTo pos (starEach [] X.env)).any (·.1) = false := by rfl) :
    PE (X.suite a ((a, oe) :: pn)) (.Call (.Name x p) [e] [] pos) (tWord X.K cs a cls d m) := by
  have go := pe_cE (X := X.suite a ((a, oe) :: pn)) (q := (a, oe)) (p := p) (pos := pos) C (j := j) ⟨hr.dp, hr.un⟩ hj (hot_of hz hf rfl) (.head _) ha hg hdb hs hpl
  refine ⟨fun pins s σ H Q I h => go.run pins s σ H Q I ?_⟩
  obtain ⟨z1, z2, _⟩ := hz
  obtain ⟨D, i, wd, es, ec, ed, kd, i4, hw, q⟩ := h
  exact ⟨_, es, D, i, wd, rfl, z1.trans ec, z2.trans ed, kd, i4, hw, q⟩
/-! ### good places -/
/-- what the law calls good -/
theorem good_mem {b : List Int} {r c x : Int} {k : Nat} (hk : r % (b.length : Int) = (k : Int)) (hx : b[k]? = some x) :
    [r, c] ∈ (bitesL b).map pr ↔ (0 ≤ r ∧ r < b.length) ∧ (0 ≤ c ∧ c < x) ∧ r + c > 0 := by
  constructor
  · intro h
    obtain ⟨⟨i, j⟩, hp, e⟩ := List.mem_map.mp h
    have e : [(i : Int), (j : Int)] = [r, c] := e
    injection e with e1 e2
    injection e2 with e2 _
    obtain ⟨y, hy, h1, h2⟩ := mem_bitesL.mp hp
    have hi : i < b.length := (List.getElem?_eq_some_iff.mp hy).1
    have e3 : r % (b.length : Int) = r := Int.emod_eq_of_lt (by omega) (by omega)
    have e4 : k = i := by omega
    rw [e4] at hx
    have hy : b[i]? = some y := hy
    rw [hx] at hy
    have := Option.some.inj hy
    have h1 : (j : Int) < y := h1
    have h2 : 0 < i + j := h2
    refine ⟨⟨by omega, by omega⟩, ⟨by omega, by omega⟩, by omega⟩
  · rintro ⟨⟨h1, h2⟩, ⟨h3, h4⟩, h5⟩
    have e3 : r % (b.length : Int) = r := Int.emod_eq_of_lt h1 h2
    have er : r = (k : Int) := by omega
    have ec : c = ((c.toNat : Nat) : Int) := by omega
    rw [er, ec]
    refine pr_mem.mpr (mem_bitesL.mpr ⟨x, hx, by show ((c.toNat : Nat) : Int) < x; omega, by show 0 < k + c.toNat; omega⟩)
theorem four_at (a b c d : Int) {k : Int} (h0 : 0 ≤ k) (h1 : k < 4) : ∃ v : Int, atI [V.int a, V.int b, V.int c, V.int d] k = some (.int v) := by
  obtain ⟨n, rfl, h⟩ : ∃ n : Nat, k = (n : Int) ∧ n < 4 := ⟨k.toNat, by omega, by omega⟩
  match n, h with
  | 0, _ => exact ⟨a, atI_nat rfl⟩
  | 1, _ => exact ⟨b, atI_nat rfl⟩
  | 2, _ => exact ⟨c, atI_nat rfl⟩
  | 3, _ => exact ⟨d, atI_nat rfl⟩
/-! ### the text -/
def topS (i : Nat) : Stmt := PySem.Challenge.pw_bitebar_k11_moved.main.body.getD i (.Pass ⟨0, 0, 0, 0⟩)
abbrev s_is_bar : Stmt := topS 9
abbrev N_is_bar : List Str := ["bar", "before", "pieces"]
theorem sc_is_bar : FnScope N_is_bar ["bar"] (defScope s_is_bar) := ⟨rfl, rfl, rfl, by decide +kernel, rfl, by decide +kernel, by decide +kernel⟩
section
variable {P : Program} {w : World} {K : PySem.W.Frag} {mg : Str → Option Value} {base : Heap}
/-- is_bar(bar) -/
def sp_is_bar (K : PySem.W.Frag) : Sp := fun vs H Q _ => ∃ (a : Addr) (ns : List Int), vs = [.ref a] ∧ SqL K H a (ns.map V.int) ∧ Q (.bl (isBarB ns)) H
theorem ok_is_bar {f : Addr} {fd : FuncData} (F : Fun K "is_bar" "is_bar" s_is_bar f fd) (m_len : mg "len" = none) {t1 t2 : Tok} (g_MOST_ROWS : mg "MOST_ROWS" = some (.int 5 t1)) (g_MOST_PIECES : mg "MOST_PIECES" = some (.int 5 t2)) :
    FnOk P w K mg base CX0 1 f fd ["bar"] (sp_is_bar K) := by
  refine F.ok sc_is_bar (fun vs H Q E h => ?_) (fun cdv A outer s H vs Q E hr h => ?_)
  · obtain ⟨a, ns, rfl, _⟩ := h
    rfl
  · obtain ⟨a, ns, rfl, hS, q⟩ := h
    have hl : (ns.map V.int).length = ns.length := List.length_map _
    refine ⟨_, (pss_cons (ps_if (PW.pt (pw_or (pt_cmpR op_lt (pe_callB (lenK (K := K)) (by rfl) m_len PySem.boot_len (pa_cons (pv 0) pa_nil)) pe_int (nomark _)) (pw_or1 (pt_cmpR op_gt (pe_callB (lenK (K := K)) (by rfl) m_len PySem.boot_len (pa_cons (pv 0) pa_nil)) (pe_glob (v := .int 5) (by rfl) g_MOST_ROWS ⟨_, rfl⟩) (nomark _)))))
        (pss_one (ps_ret pe_bl))
        pss_nil)
      (pss_cons (ps_set (i := 1) sc_is_bar.nd rfl (.inl rfl) (pe_glob (v := .int 5) (by rfl) g_MOST_PIECES ⟨_, rfl⟩))
      (pss_cons (ps_for PassesOwn.never rfl (pi_listK (K := K) (pv 0)) (pg_name (i := 2) sc_is_bar.nd rfl (.inl rfl))
        (pss_cons (ps_if (PW.pt (pw_or (pt_cmpR op_lt (pv 2) pe_int (nomark _)) (pw_or1 (pt_cmpR op_gt (pv 2) (pv 1) (nomark _)))))
          (pss_one (ps_ret pe_bl))
          pss_nil)
        (pss_one (ps_set (i := 1) sc_is_bar.nd rfl (.inl rfl) (pv 2)))))
      (pss_one (ps_ret pe_bl))))), ?_⟩
    refine ⟨_, rfl, a, _, rfl, .inl hS, _, _, rfl, rfl, _, rfl, ite2 (fun c => iteT ?_) (fun c => ?_)⟩
    · have c' := of_decide_eq_true c
      rw [hl] at c'
      have e : isBarB ns = false := by
        unfold isBarB
        rw [decide_eq_false (by omega), Bool.false_and]
      rw [e] at q
      exact q
    · refine ⟨_, rfl, a, _, rfl, .inl hS, _, _, rfl, rfl, _, rfl, ite2 (fun c2 => ?_) (fun c2 => ?_)⟩
      · have c' := of_decide_eq_true c2
        rw [hl] at c'
        have e : isBarB ns = false := by
          unfold isBarB
          rw [decide_eq_false (by omega), Bool.false_and]
        rw [e] at q
        exact q
      · have c1 := of_decide_eq_false (Bool.eq_false_iff.mpr c)
        have c2 := of_decide_eq_false (Bool.eq_false_iff.mpr c2)
        rw [hl] at c1 c2
        have e : isBarB ns = falls 5 ns := by
          unfold isBarB
          rw [decide_eq_true (by omega), Bool.true_and]
        rw [e] at q
        refine ⟨_, rfl, a, rfl, ⟨_, hS⟩, for_list (K := K) (a := a) (xs := ns.map V.int) (fun i σ H' => ∃ (m : Int) (v : Option V), σ = [some (.ref a), some (.int m), v] ∧ H' = H ∧ falls 5 ns = falls m (ns.drop i))
          ⟨5, none, rfl, rfl, rfl⟩ (fun i σ H' _ ⟨_, _, _, e, _⟩ => e ▸ hS) ?_ ?_⟩
        · rintro i y σ H' hi ⟨m, v, rfl, rfl, ef⟩
          obtain ⟨z, hz, rfl⟩ := map_get hi
          have hd : ns.drop i = z :: ns.drop (i + 1) := by
            obtain ⟨hi', e⟩ := List.getElem?_eq_some_iff.mp hz
            rw [List.drop_eq_getElem_cons hi', e]
          rw [hd, falls] at ef
          refine ⟨_, rfl, _, _, rfl, rfl, _, rfl, ite2 (fun c => iteT ?_) (fun c => ?_)⟩
          · have c' := of_decide_eq_true c
            rw [decide_eq_false (by omega), Bool.false_and] at ef
            rw [ef] at q
            exact q
          · refine ⟨_, rfl, _, rfl, _, _, rfl, rfl, _, rfl, ite2 (fun c2 => ?_) (fun c2 => ?_)⟩
            · have c' := of_decide_eq_true c2
              rw [decide_eq_false (by omega), Bool.false_and] at ef
              rw [ef] at q
              exact q
            · have c3 := of_decide_eq_false (Bool.eq_false_iff.mpr c)
              have c4 := of_decide_eq_false (Bool.eq_false_iff.mpr c2)
              rw [decide_eq_true (by omega), Bool.true_and] at ef
              exact ⟨_, rfl, z, some (.int z), rfl, rfl, ef⟩
        · rintro σ H' ⟨m, v, rfl, rfl, ef⟩
          rw [hl, List.drop_length, falls] at ef
          rw [ef] at q
          exact q
end
abbrev s_asked_bar : Stmt := topS 10
abbrev N_asked_bar : List Str := ["bar"]
theorem sc_asked_bar : FnScope N_asked_bar ["bar"] (defScope s_asked_bar) := ⟨rfl, rfl, rfl, by decide +kernel, rfl, by decide +kernel, by decide +kernel⟩
section
variable {P : Program} {w : World} {K : PySem.W.Frag} {mg : Str → Option Value} {base : Heap}
/-- asked_bar(bar), good bars -/
def sp_asked_bar (K : PySem.W.Frag) : Sp := fun vs H Q _ => ∃ (a : Addr) (ns : List Int), vs = [.ref a] ∧ SqL K H a (ns.map V.int) ∧ isBarB ns = true ∧ Q .non H
theorem ok_asked_bar {f : Addr} {fd : FuncData} (F : Fun K "asked_bar" "asked_bar" s_asked_bar f fd) (C_is_bar : Cal P w K mg base CX0 1 "is_bar" ["bar"] (sp_is_bar K)) :
    FnOk P w K mg base CX0 2 f fd ["bar"] (sp_asked_bar K) := by
  refine F.ok sc_asked_bar (fun vs H Q E h => ?_) (fun cdv A outer s H vs Q E hr h => ?_)
  · obtain ⟨a, ns, rfl, _⟩ := h
    rfl
  · obtain ⟨a, ns, rfl, hS, hb, q⟩ := h
    refine ⟨_, (pss_one (ps_if (pt_not (pt_val (pe_c C_is_bar hr (by decide) pass0 (pa_cons (pv 0) pa_nil))))
        (pss_one ps_never)
        pss_nil)), ?_⟩
    refine ⟨_, rfl, a, ns, rfl, hS, _, rfl, ?_⟩
    rw [hb]
    exact iteF q
end
abbrev s_bites_of : Stmt := topS 11
abbrev N_bites_of : List Str := ["bar", "found", "row", "column"]
theorem sc_bites_of : FnScope N_bites_of ["bar"] (defScope s_bites_of) := ⟨rfl, rfl, rfl, by decide +kernel, rfl, by decide +kernel, by decide +kernel⟩
section
variable {P : Program} {w : World} {K : PySem.W.Frag} {mg : Str → Option Value} {base : Heap}
/-- bites_of(bar): a new list of new tuples -/
def sp_bites_of (K : PySem.W.Frag) : Sp := fun vs H Q _ => ∃ (a : Addr) (ns : List Int), vs = [.ref a] ∧ SqL K H a (ns.map V.int) ∧ IsBar 5 ns ∧
  ∀ H' p xs, Same H H' → H p = none → H' p = some (.lst xs) → TL H' xs ((bitesL ns).map pr) → Q (.ref p) H'
theorem ok_bites_of {f : Addr} {fd : FuncData} (F : Fun K "bites_of" "bites_of" s_bites_of f fd) (m_len : mg "len" = none) (m_range : mg "range" = none) (m_int : mg "int" = none) :
    FnOk P w K mg base CX0 1 f fd ["bar"] (sp_bites_of K) := by
  refine F.ok sc_bites_of (fun vs H Q E h => ?_) (fun cdv A outer s H vs Q E hr h => ?_)
  · obtain ⟨a, ns, rfl, _⟩ := h
    rfl
  · obtain ⟨a, ns, rfl, hS, hb, q⟩ := h
    have hl : (ns.map V.int).length = ns.length := List.length_map _
    have hl5 : ns.length ≤ 5 := by have := hb.le; omega
    refine ⟨_, (pss_cons (ps_set (i := 1) sc_bites_of.nd rfl (.inl rfl) (pe_lst pa_nil))
      (pss_cons (ps_for PassesOwn.never rfl (pi_range1 (by rfl) m_range (pa_cons (pe_callB (lenK (K := K)) (by rfl) m_len PySem.boot_len (pa_cons (pv 0) pa_nil)) pa_nil)) (pg_name (i := 2) sc_bites_of.nd rfl (.inr rfl))
        (pss_one (ps_expr (pe_bmK (K := K) PySem.F.plainAttrs_list PySem.F.slot_list_extend PySem.F.type_list_extend mt_extend (pv 1) (pa_cons (pe_lc (own := [("column", 3)]) (g := gName 3) (tt := tYes) rfl sc_bites_of.nd (pi_range2 (by rfl) m_range (pa_cons (pe_callTy call_int1 (by rfl) m_int (by decide +kernel) (pa_cons (pe_cmpR op_eq (pv 2) pe_int (nomark _)) pa_nil)) (pa_cons (pe_ix (ixK (K := K)) (pv 0) (pv 2) (fun _ _ => rfl)) pa_nil))) (blkOk_by (N := N_bites_of) (sc := defScope s_bites_of) (by decide +kernel)) (fun _ _ _ _ _ => (pg_name (i := 3) sc_bites_of.nd rfl (.inl rfl))) (fun _ _ _ _ _ => pts_nil) (fun _ _ _ _ _ => (pe_tup (pa_cons (pv 2) (pa_cons (pv 3) pa_nil))))) pa_nil)))))
      (pss_one (ps_ret (pv 1))))), ?_⟩
    refine ⟨Nat.zero_le _, fun o no => ?_⟩
    have s1 : Same H (upd H o (.lst [])) := sNew no
    refine ⟨_, rfl, a, _, rfl, .inl (s1.seq hS), _, rfl, by rw [hl]; omega, by rw [hl]; omega,
      for_range (lo := 0) (fun i σ H' => ∃ (y2 : Option V) (xs : List V), σ = [some (.ref a), some (.ref o), y2, none] ∧ Same H H' ∧ H' o = some (.lst xs) ∧ TL H' xs ((bitesL (ns.take i)).map pr))
      ⟨none, [], rfl, s1, upd_same, TL.nil⟩ ?_ ?_⟩
    · rintro i σ H1 hi ⟨y2, xs, rfl, sm, ho, ht⟩
      rw [hl, Int.toNat_natCast] at hi
      have hz := List.getElem?_eq_getElem hi
      have hx := hb.rg ns[i] (List.getElem_mem hi)
      have hA : SqL K H1 a (ns.map V.int) := sm.seq hS
      rw [Int.zero_add]
      refine ⟨_, rfl, .inl ⟨rfl, _, SqL.of ho⟩, ?_⟩
      obtain ⟨L, eL, L1, rL, pL⟩ : ∃ L : Nat, (if decide (V.int (i : Int) = V.int 0) = true then (1 : Int) else 0) = (L : Int) ∧ L ≤ 1 ∧ rowL i L = [] ∧ 0 < i + L := by
        by_cases e : i = 0
        · subst e
          exact ⟨1, rfl, Nat.le_refl _, rfl, by omega⟩
        · refine ⟨0, if_neg ?_, Nat.zero_le _, rfl, by omega⟩
          intro z
          have := V.int.inj (of_decide_eq_true z)
          omega
      refine ⟨_, rfl, rfl, .inr ⟨_, rfl, ?_⟩⟩
      rw [eL]
      refine ⟨_, rfl, _, rfl, a, _, _, _, rfl, rfl, hA, at_map hz, _, _, rfl, ⟨by omega, by omega, by omega, by omega⟩, fun D nD => ?_⟩
      have oD : o ≠ D := ne_of_none ho nD
      refine lc_range (lo := (L : Int)) (n := (ns[i] - (L : Int)).toNat) (fun j H' => ∃ ys : List V, Same H1 H' ∧ H' D = some (.lst ys) ∧ TL H' ys ((rowL i (L + j)).map pr))
        ⟨[], sNew nD, upd_same, by rw [Nat.add_zero, rL]; exact TL.nil⟩ ?_ ?_
      · rintro j H2 hj ⟨ys, sm2, hD, ht2⟩
        refine ⟨rfl, yesT ?_⟩
        refine ⟨_, rfl, _, rfl, by show 2 ≤ sizeLine; decide, fun t nt => ?_⟩
        have Dt : D ≠ t := ne_of_none hD nt
        have k2 : KT H2 (upd H2 t (.tup [.int (i : Int), .int ((L : Int) + (j : Int))])) := KT.new nt
        have hD2 : upd H2 t (.tup [.int (i : Int), .int ((L : Int) + (j : Int))]) D = some (.lst ys) := by rw [upd_ne Dt]; exact hD
        have hlen : ys.length = (rowL i (L + j)).length := by rw [ht2.length, List.length_map]
        have hlen2 := rowL_len i (L + j)
        refine ⟨ys, hD2, small' (by omega), _, sPut (sThen sm2 nt) nD, upd_same, ?_⟩
        rw [← Nat.add_assoc, rowL, if_pos (by omega), List.map_append]
        refine TL.keep (KT.lst hD2) ((ht2.keep k2).snoc ?_)
        rw [upd_same]
        all_goals rfl
      · rintro H2 ⟨ys, sm2, hD, ht2⟩
        have eN : L + (ns[i] - (L : Int)).toNat = ns[i].toNat := by omega
        rw [eN] at ht2
        have ho2 := sm2 _ _ ho
        have hx1 : xs.length ≤ 25 := by
          rw [ht.length, List.length_map]
          exact bitesL_take_len hb i
        have hy1 : ys.length ≤ 5 := by
          have := rowL_len i ns[i].toNat
          rw [ht2.length, List.length_map]
          omega
        refine ⟨o, D, xs, ys, rfl, rfl, ho2, hD, small (by omega), ?_⟩
        refine ⟨some (.int (i : Int)), xs ++ ys, rfl, sPut (sm.trans sm2) no, upd_same, ?_⟩
        rw [bitesL_more hz, List.map_append]
        exact TL.keep (KT.lst ho2) ((ht.keep (KT.same sm2)).append ht2)
    · rintro σ H1 ⟨y2, xs, rfl, sm, ho, ht⟩
      rw [hl, Int.toNat_natCast, List.take_length] at ht
      exact ⟨_, rfl, q H1 o xs sm no ho ht⟩
end
abbrev s_behind : Stmt := topS 12
abbrev N_behind : List Str := ["bar", "row", "column", "found", "pieces"]
theorem sc_behind : FnScope N_behind ["bar", "row", "column"] (defScope s_behind) := ⟨rfl, rfl, rfl, by decide +kernel, rfl, by decide +kernel, by decide +kernel⟩
section
variable {P : Program} {w : World} {K : PySem.W.Frag} {mg : Str → Option Value} {base : Heap}
/-- behind(bar, row, column): a new list -/
def sp_behind (K : PySem.W.Frag) : Sp := fun vs H Q _ => ∃ (a : Addr) (ns : List Int) (r c : Nat), vs = [.ref a, .int (r : Nat), .int (c : Nat)] ∧ SqL K H a (ns.map V.int) ∧ IsBar 5 ns ∧ (r, c) ∈ bitesL ns ∧
  ∀ H' p, Same H H' → H p = none → H' p = some (.lst ((behindL ns r c).map V.int)) → Q (.ref p) H'
theorem cut_take (xs : List V) (r : Nat) : cutV xs none (some (r : Int)) = xs.take r := by
  unfold cutV
  rw [HT.sIx_none, HT.sIx_nat, List.drop_zero, Nat.sub_zero]
  by_cases h : r ≤ xs.length
  · rw [Nat.min_eq_left h]
  · rw [Nat.min_eq_right (by omega), List.take_length, List.take_of_length_le (by omega)]
theorem cut_drop (xs : List V) (r : Nat) : cutV xs (some (r : Int)) none = xs.drop r := by
  unfold cutV
  rw [HT.sIx_none, HT.sIx_nat]
  by_cases h : r ≤ xs.length
  · rw [Nat.min_eq_left h, List.take_of_length_le (by rw [List.length_drop]; omega)]
  · rw [Nat.min_eq_right (by omega), List.drop_eq_nil_of_le (Nat.le_refl _), List.drop_eq_nil_of_le (by omega), List.take_nil]
theorem ok_behind {f : Addr} {fd : FuncData} (F : Fun K "behind" "behind" s_behind f fd) (m_list : mg "list" = none) (m_min : mg "min" = none) :
    FnOk P w K mg base CX0 1 f fd ["bar", "row", "column"] (sp_behind K) := by
  refine F.ok sc_behind (fun vs H Q E h => ?_) (fun cdv A outer s H vs Q E hr h => ?_)
  · obtain ⟨a, ns, r, c, rfl, _⟩ := h
    rfl
  · obtain ⟨a, ns, r, c, rfl, hS, ib, hm, q⟩ := h
    have hl5 : ns.length ≤ 5 := by have := ib.le; omega
    refine ⟨_, (pss_cons (ps_set (i := 3) sc_behind.nd rfl (.inl rfl) (pe_callTy (listK (K := K)) (by rfl) m_list (by decide +kernel) (pa_cons (pe_slice (slK (K := K)) (pv 0) po_none (po_some (pv 1))) pa_nil)))
      (pss_cons (ps_if (pt_cmpR op_gt (pv 2) pe_int (nomark _))
        (pss_one (ps_expr (pe_bmK (K := K) PySem.F.plainAttrs_list PySem.F.slot_list_extend PySem.F.type_list_extend mt_extend (pv 3) (pa_cons (pe_lc (own := [("pieces", 4)]) (g := gName 4) (tt := tYes) rfl sc_behind.nd (pi_listK (K := K) (pe_slice (slK (K := K)) (pv 0) (po_some (pv 1)) po_none)) (blkOk_by (N := N_behind) (sc := defScope s_behind) (by decide +kernel)) (fun _ _ _ _ _ => (pg_name (i := 4) sc_behind.nd rfl (.inl rfl))) (fun _ _ _ _ _ => pts_nil) (fun _ _ _ _ _ => (pe_callB (call_min2 rfl) (by rfl) m_min (by decide +kernel) (pa_cons (pv 4) (pa_cons (pv 2) pa_nil))))) pa_nil))))
        pss_nil)
      (pss_one (ps_ret (pv 3))))), ?_⟩
    refine ⟨_, rfl, _, rfl, (r : Int), rfl, a, _, rfl, hS, fun p1 n1 => ?_⟩
    rw [cut_take, ← List.map_take]
    refine ⟨p1, _, rfl, .inl (SqL.of upd_same), fun o no => ?_⟩
    have s1 : Same H (upd (upd H p1 (.lst ((ns.take r).map V.int))) o (.lst ((ns.take r).map V.int))) := sThen (sNew n1) no
    have ho : upd (upd H p1 (.lst ((ns.take r).map V.int))) o (.lst ((ns.take r).map V.int)) o = some (.lst ((ns.take r).map V.int)) := upd_same
    have no0 : H o = none := by
      cases e : H o with
      | none => rfl
      | some u =>
        have := sNew (o := .lst ((ns.take r).map V.int)) n1 o u e
        rw [no] at this
        cases this
    generalize upd (upd H p1 (.lst ((ns.take r).map V.int))) o (.lst ((ns.take r).map V.int)) = H1 at s1 ho ⊢
    refine ⟨_, rfl, _, _, rfl, rfl, _, rfl, ite2 (fun z => ?_) (fun z => ?_)⟩
    · have z' := of_decide_eq_true z
      refine ⟨_, rfl, .inl ⟨rfl, _, SqL.of ho⟩, ?_⟩
      refine ⟨_, rfl, _, rfl, (r : Int), rfl, a, _, rfl, s1.seq hS, fun p2 n2 => ?_⟩
      rw [cut_drop, ← List.map_drop]
      have s2 : Same H1 (upd H1 p2 (.lst ((ns.drop r).map V.int))) := sNew n2
      have h2 : upd H1 p2 (.lst ((ns.drop r).map V.int)) p2 = some (.lst ((ns.drop r).map V.int)) := upd_same
      generalize upd H1 p2 (.lst ((ns.drop r).map V.int)) = H2 at s2 h2 ⊢
      have ho2 := s2 _ _ ho
      refine ⟨p2, rfl, ⟨_, SqL.of h2⟩, fun D nD => ?_⟩
      refine lc_list (K := K) (a := p2) (xs := (ns.drop r).map V.int) (fun j H' => Same H2 H' ∧ H' D = some (.lst ((((ns.drop r).take j).map fun x => min x (c : Int)).map V.int))) ⟨sNew nD, upd_same⟩ (fun _ _ _ h => SqL.of (h.1 _ _ h2)) ?_ ?_
      · rintro j y H3 hj ⟨s3, hD⟩
        obtain ⟨u, hu, rfl⟩ := map_get hj
        refine ⟨rfl, yesT ?_⟩
        refine ⟨_, rfl, _, rfl, _, _, rfl, _, hD, ?_, sPut s3 nD, ?_⟩
        · rw [List.length_map, List.length_map, List.length_take, List.length_drop]
          exact small' (by omega)
        · rw [upd_same, take_more hu, List.map_append, List.map_append]
          have e : (if (c : Int) < u then (c : Int) else u) = min u (c : Int) := by
            by_cases z : (c : Int) < u
            · rw [if_pos z]; omega
            · rw [if_neg z]; omega
          show some (HO.lst (_ ++ [V.int (if (c : Int) < u then (c : Int) else u)])) = _
          rw [e]
          all_goals rfl
      · rintro H3 ⟨s3, hD⟩
        rw [List.length_map, List.take_length] at hD
        have ho3 := s3 _ _ ho2
        refine ⟨o, D, _, _, rfl, rfl, ho3, hD, ?_, ?_⟩
        · rw [List.length_map, List.length_map, List.length_map, List.length_take, List.length_drop]
          exact small (by omega)
        · refine ⟨_, rfl, q _ o (sPut ((s1.trans s2).trans s3) no0) no0 ?_⟩
          rw [upd_same]
          unfold behindL
          rw [if_pos (by omega), List.map_append]
    · have z' := of_decide_eq_false (Bool.eq_false_iff.mpr z)
      refine ⟨_, rfl, q H1 o s1 no0 ?_⟩
      unfold behindL
      rw [if_neg (by omega), List.append_nil]
      exact ho
end
abbrev s_asked_table : Stmt := topS 15
abbrev N_asked_table : List Str := ["table", "bar"]
theorem sc_asked_table : FnScope N_asked_table ["table"] (defScope s_asked_table) := ⟨rfl, rfl, rfl, by decide +kernel, rfl, by decide +kernel, by decide +kernel⟩
section
variable {P : Program} {w : World} {K : PySem.W.Frag} {mg : Str → Option Value} {base : Heap}
/-- asked_table(table), good tables -/
def sp_asked_table (K : PySem.W.Frag) : Sp := fun vs H Q _ => ∃ (T : Addr) (xs : List V) (ds : List (List Int)), vs = [.ref T] ∧ SqL K H T xs ∧ LL H xs ds ∧ IsTable ds ∧ Q .non H
theorem ok_asked_table {f : Addr} {fd : FuncData} (F : Fun K "asked_table" "asked_table" s_asked_table f fd) (m_len : mg "len" = none) {t1 : Tok} (g_MOST : mg "MOST" = some (.int 3 t1)) (C_asked_bar : Cal P w K mg base CX0 2 "asked_bar" ["bar"] (sp_asked_bar K)) :
    FnOk P w K mg base CX0 3 f fd ["table"] (sp_asked_table K) := by
  refine F.ok sc_asked_table (fun vs H Q E h => ?_) (fun cdv A outer s H vs Q E hr h => ?_)
  · obtain ⟨T, xs, ds, rfl, _⟩ := h
    rfl
  · obtain ⟨T, xs, ds, rfl, hT, ll, it, q⟩ := h
    have el := ll.length
    have l3 := it.le
    refine ⟨_, (pss_cons (ps_if (pt_cmpR op_gt (pe_callB (lenK (K := K)) (by rfl) m_len PySem.boot_len (pa_cons (pv 0) pa_nil)) (pe_glob (v := .int 3) (by rfl) g_MOST ⟨_, rfl⟩) (nomark _))
        (pss_one ps_never)
        pss_nil)
      (pss_one (ps_for PassesOwn.never rfl (pi_listK (K := K) (pv 0)) (pg_name (i := 1) sc_asked_table.nd rfl (.inl rfl))
        (pss_one (ps_expr (pe_c C_asked_bar hr (by decide) pass0 (pa_cons (pv 1) pa_nil))))))), ?_⟩
    refine ⟨_, rfl, T, _, rfl, .inl hT, _, _, rfl, rfl, _, rfl, dF_ (by show ¬ (3 : Int) < ((_ : Nat) : Int); omega) ?_⟩
    refine ⟨_, rfl, T, rfl, ⟨_, hT⟩, for_list (K := K) (a := T) (xs := xs) (fun i σ H' => ∃ y : Option V, σ = [some (.ref T), y] ∧ H' = H) ⟨none, rfl, rfl⟩ (fun i σ H' _ ⟨_, _, e⟩ => e ▸ hT) ?_ ?_⟩
    · rintro i x σ H1 hi ⟨y, rfl, rfl⟩
      obtain ⟨t, d, hd, rfl, ht⟩ := ll.at hi
      exact ⟨_, rfl, t, d, rfl, SqL.of ht, isBarB_iff.mpr (it.is d (List.mem_of_getElem? hd)), _, rfl, rfl⟩
    · rintro σ H1 ⟨y, rfl, rfl⟩
      exact q
end
abbrev s_moved : Stmt := topS 16
abbrev N_moved : List Str := ["table", "number", "row", "column", "found", "bar"]
theorem sc_moved : FnScope N_moved ["table", "number", "row", "column"] (defScope s_moved) := ⟨rfl, rfl, rfl, by decide +kernel, rfl, by decide +kernel, by decide +kernel⟩
section
variable {P : Program} {w : World} {K : PySem.W.Frag} {mg : Str → Option Value} {base : Heap}
/-- a bite that can be made on this table -/
def CanBite (ds : List (List Int)) (n r c : Int) : Prop := ∃ (k : Nat) (d : List Int), n = k ∧ ds[k]? = some d ∧ [r, c] ∈ (bitesL d).map pr
/-- moved(table, number, row, column), the table good: a new table, or an error -/
def sp_moved (K : PySem.W.Frag) (cs : Nat → Addr) : Sp := fun vs H Q E => ∃ (T : Addr) (xs : List V) (ds : List (List Int)) (n r c : Int), vs = [.ref T, .int n, .int r, .int c] ∧ H T = some (.lst xs) ∧ LL H xs ds ∧ IsTable ds ∧
  (∀ (k i j : Nat) (d : List Int), n = k → r = i → c = j → ds[k]? = some d → (i, j) ∈ bitesL d → ∀ H' p ys, Same H H' → H p = none → H' p = some (.lst ys) → LL H' ys (ds.set k (behindL d i j)) → NewL H ys → V.ref p ∉ ys → Q (.ref p) H') ∧
  (¬ CanBite ds n r c → ∀ H', Same H H' → E (.ref (cs 1)) none H')
theorem ok_moved {f : Addr} {fd : FuncData} (F : Fun K "moved" "moved" s_moved f fd) (m_len : mg "len" = none) (m_list : mg "list" = none) (C_asked_table : Cal P w K mg base CX0 3 "asked_table" ["table"] (sp_asked_table K)) (C_bites_of : Cal P w K mg base CX0 1 "bites_of" ["bar"] (sp_bites_of K))
    (C_behind : Cal P w K mg base CX0 1 "behind" ["bar", "row", "column"] (sp_behind K)) {cs : Nat → Addr} {cB : Addr} (T_kinds : Kinds K mg cs cB) : FnOk P w K mg base (L2N.CX P w) 4 f fd ["table", "number", "row", "column"] (sp_moved K cs) := by
  refine okN F sc_moved (fun vs H Q E h => ?_) (fun cdv A outer s H vs Q E hr h => ?_)
  · obtain ⟨T, xs, ds, n, r, c, rfl, _⟩ := h
    rfl
  · obtain ⟨T, xs, ds, nI, rI', cI, rfl, hT, ll, it, q, qe⟩ := h
    have el := ll.length
    have l3 := it.le
    refine ⟨_, (pss_cons (ps_expr (pe_c C_asked_table hr (by decide) pass0 (pa_cons (pv 0) pa_nil)))
      (pss_cons (ps_if (PW.pt (pw_or (pt_cmpR op_lt (pv 1) pe_int (nomark _)) (pw_or (pt_cmpR op_ge (pv 1) (pe_callB (lenK (K := K)) (by rfl) m_len PySem.boot_len (pa_cons (pv 0) pa_nil)) (nomark _)) (pw_or1 (pt_cmpR (notInDK (K := K) (hu65 hr)) (pe_tup (pa_cons (pv 2) (pa_cons (pv 3) pa_nil))) (pe_c C_bites_of hr (by decide) pass0 (pa_cons (pe_ix (ixK (K := K)) (pv 0) (pv 1) (fun _ _ => rfl)) pa_nil)) (by rfl))))))
        (pss_one (ps_own rfl T_kinds.o1 (L2N.takes_of rfl rfl rfl rfl)))
        pss_nil)
      (pss_cons (ps_setLc (i := 4) (own := [("bar", 5)]) (g := gName 5) (tt := tYes) rfl sc_moved.nd rfl rfl (sw_true rfl rfl rfl (by decide +kernel)) (pi_listK (K := K) (pv 0)) (blkOk_by (N := N_moved) (sc := defScope s_moved) (by decide +kernel)) (fun _ _ _ _ _ => (pg_name (i := 5) sc_moved.nd rfl (.inl rfl))) (fun _ _ _ _ _ => pts_nil) (fun _ _ _ _ _ => (pe_callTy (listK (K := K)) (by rfl) m_list (by decide +kernel) (pa_cons (pv 5) pa_nil))))
      (pss_cons (ps_asg (pe_c C_behind hr (by decide) pass0 (pa_cons (pe_ix (ixK (K := K)) (pv 0) (pv 1) (fun _ _ => rfl)) (pa_cons (pv 2) (pa_cons (pv 3) pa_nil)))) (pg_sub (pv 4) (pv 1) set_list))
      (pss_one (ps_ret (pv 4))))))), ?_⟩
    refine ⟨_, rfl, T, xs, ds, rfl, SqL.of hT, ll, it, ?_⟩
    -- the test
    refine ⟨_, rfl, _, _, rfl, rfl, _, rfl, d2_ (fun c1 => iteT (qe (fun ⟨k, d, e, _⟩ => by omega) H (Same.refl H))) (fun c1 => ?_)⟩
    refine ⟨_, rfl, _, rfl, T, _, rfl, .inl (SqL.of hT), _, _, rfl, rfl, _, rfl, d2_ (fun c2 => iteT (qe (fun ⟨k, d, e, hk, _⟩ => by have := (List.getElem?_eq_some_iff.mp hk).1; omega) H (Same.refl H))) (fun c2 => ?_)⟩
    obtain ⟨n, rfl, hnl⟩ : ∃ n : Nat, nI = (n : Int) ∧ n < ds.length := ⟨nI.toNat, by omega, by omega⟩
    have hn := List.getElem?_eq_getElem hnl
    generalize ds[n] = d at hn
    have ib := it.is d (List.mem_of_getElem? hn)
    obtain ⟨t, ht, hdt⟩ := ll.get hn
    refine ⟨_, rfl, _, rfl, by show 2 ≤ sizeLine; decide, fun u nu => ?_⟩
    have s1 : Same H (upd H u (.tup [.int rI', .int cI])) := sNew nu
    have hu1 : upd H u (.tup [.int rI', .int cI]) u = some (.tup ([rI', cI].map V.int)) := upd_same
    generalize upd H u (.tup [.int rI', .int cI]) = H1 at s1 hu1 ⊢
    refine ⟨_, rfl, _, rfl, T, _, _, _, rfl, rfl, SqL.of (s1 _ _ hT), atI_nat ht, t, d, rfl, SqL.of (s1 _ _ hdt), ib, fun H2 p zs s2 np hp tp => ?_⟩
    refine ⟨_, _, dp_tup (s2 _ _ hu1), dp_tl (SqL.of hp) tp, shaped_tup _, shaped_tups _, _, rfl, ?_⟩
    have s12 := s1.trans s2
    rw [any_tup]
    refine n2_ (fun hm => ?_) (fun hm => ?_)
    · refine qe (fun ⟨k, d', e, hk, hb⟩ => hm ?_) H2 s12
      have : n = k := by omega
      rw [← this, hn] at hk
      rw [Option.some.inj hk]
      exact hb
    obtain ⟨⟨r, c⟩, hmb, e⟩ := List.mem_map.mp hm
    have e : [(r : Int), (c : Int)] = [rI', cI] := e
    injection e with e1 e2
    injection e2 with e2 _
    subst e1 e2
    -- found = [list(bar) for bar in table]
    refine ⟨_, rfl, T, rfl, ⟨_, SqL.of (s12 _ _ hT)⟩, fun G nG => ?_⟩
    refine copy_loop (T := T) (xs := xs) (ds := ds) (by show 5 < 6; omega) (SqL.of (s12 _ _ hT)) (ll.same s12) (by omega) nG fun H3 ys s3 hG lG nw nm => ?_
    have s13 := s12.trans s3
    -- found[number] = behind(..)
    refine ⟨_, rfl, _, rfl, T, _, _, _, rfl, rfl, SqL.of (s13 _ _ hT), atI_nat ht, _, rfl, _, rfl, t, d, r, c, rfl, SqL.of (s13 _ _ hdt), ib, hmb, fun H4 g s4 ng hg => ?_⟩
    have hG4 := s4 _ _ hG
    have gG : g ≠ G := (ne_of_none hG ng).symm
    have eyl : ys.length = ds.length := lG.length
    have GH : H G = none := s12.free nG
    refine ⟨_, rfl, _, rfl, G, ys, (n : Int), n, rfl, rfl, hG4, ?_, ?_⟩
    · unfold ixN
      rw [if_pos (by omega), if_pos (by omega), Int.toNat_natCast]
    · refine ⟨_, rfl, q n r c d rfl rfl rfl hn hmb _ G (ys.set n (.ref g)) (sPut (s13.trans s4) GH) GH upd_same ?_ ?_ ?_⟩
      · refine LL.set (by rw [upd_ne gG]; exact hg) n (LL.keepM lG fun b cs hb e => ?_)
        have bG : b ≠ G := fun z => nm (by rw [← z]; exact hb)
        rw [upd_ne bG]
        exact s4 _ _ e
      · intro y hy v e
        rcases List.mem_or_eq_of_mem_set hy with h' | h'
        · exact s12.free (nw y h' v e)
        · rw [h'] at e
          rw [← V.ref.inj e]
          exact s13.free ng
      · intro z
        rcases List.mem_or_eq_of_mem_set z with h' | h'
        · exact nm h'
        · exact gG (V.ref.inj h').symm
end
abbrev s_law_cell_at : Stmt := topS 18
abbrev N_law_cell_at : List Str := ["script", "k"]
theorem sc_law_cell_at : FnScope N_law_cell_at ["script", "k"] (defScope s_law_cell_at) := ⟨rfl, rfl, rfl, by decide +kernel, rfl, by decide +kernel, by decide +kernel⟩
section
variable {P : Program} {w : World} {K : PySem.W.Frag} {mg : Str → Option Value} {base : Heap}
/-- _law_cell_at(script, k) -/
def cellAt (ns : List Int) (k : Nat) : Int := ns.getD k 0
def sp_law_cell_at (K : PySem.W.Frag) : Sp := fun vs H Q _ => ∃ (a : Addr) (ns : List Int) (k : Nat), vs = [.ref a, .int k] ∧ SqL K H a (ns.map V.int) ∧ Q (.int (cellAt ns k)) H
theorem ok_law_cell_at {f : Addr} {fd : FuncData} (F : Fun K "_law_cell_at" "_law_cell_at" s_law_cell_at f fd) (m_len : mg "len" = none) : FnOk P w K mg base CX0 1 f fd ["script", "k"] (sp_law_cell_at K) := by
  refine F.ok sc_law_cell_at (fun vs H Q E h => ?_) (fun cdv A outer s H vs Q E hr h => ?_)
  · obtain ⟨a, ns, k, rfl, _⟩ := h
    rfl
  · obtain ⟨a, ns, k, rfl, hS, q⟩ := h
    have hl : (ns.map V.int).length = ns.length := List.length_map _
    refine ⟨_, (pss_cons (ps_if (pt_cmpR op_lt (pv 1) (pe_callB (lenK (K := K)) (by rfl) m_len PySem.boot_len (pa_cons (pv 0) pa_nil)) (nomark _))
        (pss_one (ps_ret (pe_ix (ixK (K := K)) (pv 0) (pv 1) (fun _ _ => rfl))))
        pss_nil)
      (pss_one (ps_ret pe_int))), ?_⟩
    refine ⟨_, rfl, _, rfl, a, _, rfl, .inl hS, _, _, rfl, rfl, _, rfl, ite2 (fun c => ?_) (fun c => ?_)⟩
    · have c' := of_decide_eq_true c
      rw [hl] at c'
      have hk : k < ns.length := by omega
      have e : cellAt ns k = ns[k] := by
        unfold cellAt
        rw [List.getD_eq_getElem?_getD, List.getElem?_eq_getElem hk]; rfl
      rw [e] at q
      exact ⟨_, rfl, _, rfl, a, _, _, _, rfl, rfl, hS, at_map (List.getElem?_eq_getElem hk), q⟩
    · have c' := of_decide_eq_false (Bool.eq_false_iff.mpr c)
      rw [hl] at c'
      have e : cellAt ns k = 0 := by
        unfold cellAt
        rw [List.getD_eq_getElem?_getD, List.getElem?_eq_none (by omega)]; rfl
      rw [e] at q
      exact q
end
abbrev s_law_whole : Stmt := topS 19
abbrev N_law_whole : List Str := ["found"]
theorem sc_law_whole : FnScope N_law_whole ["found"] (defScope s_law_whole) := ⟨rfl, rfl, rfl, by decide +kernel, rfl, by decide +kernel, by decide +kernel⟩
section
variable {P : Program} {w : World} {K : PySem.W.Frag} {mg : Str → Option Value} {base : Heap}
/-- _law_whole(found), of an int -/
def sp_law_whole (K : PySem.W.Frag) : Sp := fun vs H Q _ => ∃ i : Int, vs = [.int i] ∧ Q (.bl true) H
theorem ok_law_whole {f : Addr} {fd : FuncData} (F : Fun K "_law_whole" "_law_whole" s_law_whole f fd) (m_isinstance : mg "isinstance" = none) (m_int : mg "int" = none) (m_bool : mg "bool" = none) : FnOk P w K mg base CX0 1 f fd ["found"] (sp_law_whole K) := by
  refine F.ok sc_law_whole (fun vs H Q E h => ?_) (fun cdv A outer s H vs Q E hr h => ?_)
  · obtain ⟨i, rfl, _⟩ := h
    rfl
  · obtain ⟨i, rfl, q⟩ := h
    refine ⟨_, (pss_one (ps_ret (pe_and (pe_callB (isiK (K := K)) (by rfl) m_isinstance (by decide +kernel) (pa_cons (pv 0) (pa_cons (pe_bltn (v := .ty "int") (by rfl) m_int (by decide +kernel) rfl) pa_nil))) (pe_one (pe_not (pe_callB (isiK (K := K)) (by rfl) m_isinstance (by decide +kernel) (pa_cons (pv 0) (pa_cons (pe_bltn (v := .ty "bool") (by rfl) m_bool (by decide +kernel) rfl) pa_nil)))))))), ?_⟩
    refine ⟨_, rfl, _, _, _, _, true, rfl, .ty _, .base (.int i), kit_ty (by decide +kernel), true, rfl, iteT ?_⟩
    exact ⟨_, rfl, _, _, _, _, false, rfl, .ty _, .base (.int i), kit_ty (by decide +kernel), false, rfl, q⟩
end
abbrev s_law_is_list : Stmt := topS 20
abbrev N_law_is_list : List Str := ["found", "due", "k"]
theorem sc_law_is_list : FnScope N_law_is_list ["found", "due"] (defScope s_law_is_list) := ⟨rfl, rfl, rfl, by decide +kernel, rfl, by decide +kernel, by decide +kernel⟩
section
variable {P : Program} {w : World} {K : PySem.W.Frag} {mg : Str → Option Value} {base : Heap}
/-- _law_is_list(found, due), of two lists of the same ints -/
def sp_law_is_list (K : PySem.W.Frag) : Sp := fun vs H Q _ => ∃ (p d : Addr) (ns : List Int), vs = [.ref p, .ref d] ∧ H p = some (.lst (ns.map V.int)) ∧ H d = some (.lst (ns.map V.int)) ∧ ns.length ≤ 1000 ∧ Q (.bl true) H
theorem ok_law_is_list {f : Addr} {fd : FuncData} (F : Fun K "_law_is_list" "_law_is_list" s_law_is_list f fd) (m_len : mg "len" = none) (m_range : mg "range" = none) (m_isinstance : mg "isinstance" = none) (m_list : mg "list" = none)
    (C_law_whole : Cal P w K mg base CX0 1 "_law_whole" ["found"] (sp_law_whole K)) : FnOk P w K mg base CX0 2 f fd ["found", "due"] (sp_law_is_list K) := by
  refine F.ok sc_law_is_list (fun vs H Q E h => ?_) (fun cdv A outer s H vs Q E hr h => ?_)
  · obtain ⟨p, d, ns, rfl, _⟩ := h
    rfl
  · obtain ⟨p, d, ns, rfl, hp, hd, hl, q⟩ := h
    have el : (ns.map V.int).length = ns.length := List.length_map _
    refine ⟨_, (pss_cons (ps_if (PW.pt (pw_or (pt_not (pt_val (pe_callB (isiK (K := K)) (by rfl) m_isinstance (by decide +kernel) (pa_cons (pv 0) (pa_cons (pe_bltn (v := .ty "list") (by rfl) m_list (by decide +kernel) rfl) pa_nil))))) (pw_or1 (pt_cmpR op_ne (pe_callB (lenK (K := K)) (by rfl) m_len PySem.boot_len (pa_cons (pv 0) pa_nil)) (pe_callB (lenK (K := K)) (by rfl) m_len PySem.boot_len (pa_cons (pv 1) pa_nil)) (nomark _)))))
        (pss_one (ps_ret pe_bl))
        pss_nil)
      (pss_cons (ps_for PassesOwn.never rfl (pi_range1 (by rfl) m_range (pa_cons (pe_callB (lenK (K := K)) (by rfl) m_len PySem.boot_len (pa_cons (pv 1) pa_nil)) pa_nil)) (pg_name (i := 2) sc_law_is_list.nd rfl (.inl rfl))
        (pss_one (ps_if (PW.pt (pw_or (pt_not (pt_val (pe_c C_law_whole hr (by decide) pass0 (pa_cons (pe_ix (ixK (K := K)) (pv 0) (pv 2) (fun _ _ => rfl)) pa_nil)))) (pw_or1 (pt_cmpR op_ne (pe_ix (ixK (K := K)) (pv 0) (pv 2) (fun _ _ => rfl)) (pe_ix (ixK (K := K)) (pv 1) (pv 2) (fun _ _ => rfl)) (nomark _)))))
          (pss_one (ps_ret pe_bl))
          pss_nil)))
      (pss_one (ps_ret pe_bl)))), ?_⟩
    refine ⟨_, rfl, _, _, _, _, true, rfl, .ty _, .base (.lst hp), kit_ty (by decide +kernel), true, rfl, iteF ?_⟩
    refine ⟨_, rfl, p, _, rfl, .inl (SqL.of hp), _, rfl, d, _, rfl, .inl (SqL.of hd), rfl, _, rfl, ?_⟩
    rw [decide_eq_true rfl]
    refine iteF ?_
    refine ⟨_, rfl, d, _, rfl, .inl (SqL.of hd), _, rfl, by omega, by omega,
      for_range (lo := 0) (fun i σ H' => ∃ (y2 : Option V), σ = [some (.ref p), some (.ref d), y2] ∧ H' = H) ⟨none, rfl, rfl⟩ ?_ ?_⟩
    · rintro i σ H1 hi ⟨y2, rfl, rfl⟩
      rw [el, Int.toNat_natCast] at hi
      have hz := List.getElem?_eq_getElem hi
      rw [Int.zero_add]
      refine ⟨_, rfl, _, rfl, p, _, _, _, rfl, rfl, SqL.of hp, at_map hz, ns[i], rfl, true, rfl, iteF ?_⟩
      refine ⟨_, rfl, _, rfl, p, _, _, _, rfl, rfl, SqL.of hp, at_map hz, _, rfl, _, rfl, d, _, _, _, rfl, rfl, SqL.of hd, at_map hz, rfl, _, rfl, ?_⟩
      rw [decide_eq_true rfl]
      exact iteF ⟨_, rfl, rfl⟩
    · rintro σ H1 ⟨y2, rfl, rfl⟩
      exact q
end
abbrev s_law_word_of : Stmt := topS 21
abbrev N_law_word_of : List Str := ["e", "kinds"]
theorem sc_law_word_of : FnScope N_law_word_of ["e"] (defScope s_law_word_of) := ⟨rfl, rfl, rfl, by decide +kernel, rfl, by decide +kernel, by decide +kernel⟩
section
variable {P : Program} {w : World} {K : PySem.W.Frag} {mg : Str → Option Value} {base : Heap}
theorem ansL_at (i : Nat) (h : i < 4) : ((ansL i).map V.bl)[i]? = some (V.bl true) ∧ ((ansL i).map V.bl).all flatV = true ∧ ∀ (m : Nat) (z : V), m < i → ((ansL i).map V.bl)[m]? = some z → eqV z (.bl true) = false := by
  have go : ∀ b : Bool, b = false → eqV (V.bl b) (.bl true) = false := fun b e => by subst e; rfl
  refine ⟨?_, by rfl, ?_⟩
  · match i, h with
    | 0, _ => rfl
    | 1, _ => rfl
    | 2, _ => rfl
    | 3, _ => rfl
  · intro m z hm e
    match i, h, m, hm with
    | 1, _, 0, _ => cases e; rfl
    | 2, _, 0, _ => cases e; rfl
    | 2, _, 1, _ => cases e; rfl
    | 3, _, 0, _ => cases e; rfl
    | 3, _, 1, _ => cases e; rfl
    | 3, _, 2, _ => cases e; rfl
theorem ok_law_word_of {f : Addr} {fd : FuncData} (F : Fun K "_law_word_of" "_law_word_of" s_law_word_of f fd) (m_isinstance : mg "isinstance" = none) (m_ValueError : mg "ValueError" = none) {cs : Nat → Addr} {cB : Addr} (T_kinds : Kinds K mg cs cB) :
    FnE P w K mg base 1 f fd ["e"] (sp_law_word_of K cs) := by
  refine okE F sc_law_word_of (fun p vs H Q E h => ?_) (fun cdv A outer s H vs Q E p hot hr h => ?_)
  · obtain ⟨D, i, wd, rfl, _⟩ := h
    rfl
  · obtain ⟨D, i, wd, rfl, hc, hd, kd, i4, hw, q⟩ := h
    have hf : ∃ vs, p.2.data = .fields vs := by
      obtain ⟨_, v, e, _⟩ := hot
      exact ⟨v, e⟩
    refine ⟨_, (pss_cons (ps_set (i := 1) sc_law_word_of.nd rfl (.inl rfl) (pe_lst (pa_cons (pe_callB (call_isP (K := K) kd.ex (.head _) hc hd hf) (by rfl) m_isinstance (by decide +kernel) (pa_cons (pv 0) (pa_cons (pe_glob (v := .ref (cs 0)) (by rfl) T_kinds.o0.g rfl) pa_nil))) (pa_cons (pe_callB (call_isP (K := K) kd.ex (.head _) hc hd hf) (by rfl) m_isinstance (by decide +kernel) (pa_cons (pv 0) (pa_cons (pe_glob (v := .ref (cs 1)) (by rfl) T_kinds.o1.g rfl) pa_nil))) (pa_cons (pe_callB (call_isP (K := K) kd.ex (.head _) hc hd hf) (by rfl) m_isinstance (by decide +kernel) (pa_cons (pv 0) (pa_cons (pe_glob (v := .ref (cs 2)) (by rfl) T_kinds.o2.g rfl) pa_nil))) (pa_cons (pe_callB (call_isP (K := K) kd.ex (.head _) hc hd hf) (by rfl) m_isinstance (by decide +kernel) (pa_cons (pv 0) (pa_cons (pe_glob (v := .ref (cs 3)) (by rfl) T_kinds.o3.g rfl) pa_nil))) pa_nil))))))
      (pss_cons (ps_if (PW.pt (pw_or (pt_cmpR op_ne (pe_bmK (K := K) PySem.F.plainAttrs_list PySem.F.slot_list_count PySem.F.type_list_count mt_bcount (pv 1) (pa_cons pe_bl pa_nil)) pe_int (nomark _)) (pw_or1 (pt_not (pt_val (pe_callB (call_isP (K := K) kd.ex (.head _) hc hd hf) (by rfl) m_isinstance (by decide +kernel) (pa_cons (pv 0) (pa_cons (pe_bltn (v := .ty "ValueError") (by rfl) m_ValueError (by decide +kernel) rfl) pa_nil))))))))
        (pss_one (ps_ret pe_str))
        pss_nil)
      (pss_one (ps_ret (pe_ix (ixK (K := K)) (pe_lst (pa_cons pe_str (pa_cons pe_str (pa_cons pe_str (pa_cons pe_str pa_nil))))) (pe_bmK (K := K) PySem.F.plainAttrs_list PySem.F.slot_list_index PySem.F.type_list_index indexK (pv 1) (pa_cons pe_bl pa_nil)) (fun _ _ => rfl)))))), ?_⟩
    refine ⟨_, rfl, _, _, _, rfl, (fun _ r => r), kd.k 0 (by decide), ?_⟩
    refine ⟨_, rfl, _, _, _, rfl, (fun _ r => r), kd.k 1 (by decide), ?_⟩
    refine ⟨_, rfl, _, _, _, rfl, (fun _ r => r), kd.k 2 (by decide), ?_⟩
    refine ⟨_, rfl, _, _, _, rfl, (fun _ r => r), kd.k 3 (by decide), ?_⟩
    refine ⟨by show 4 ≤ sizeLine; decide, fun l nl => ?_⟩
    have s1 : Same H (upd H l (.lst [V.bl (decide (i = 0)), V.bl (decide (i = 1)), V.bl (decide (i = 2)), V.bl (decide (i = 3))])) := sNew nl
    have hl : upd H l (.lst [V.bl (decide (i = 0)), V.bl (decide (i = 1)), V.bl (decide (i = 2)), V.bl (decide (i = 3))]) l = some (.lst ((ansL i).map V.bl)) := upd_same
    refine ⟨_, rfl, ?_⟩
    generalize upd H l (.lst [V.bl (decide (i = 0)), V.bl (decide (i = 1)), V.bl (decide (i = 2)), V.bl (decide (i = 3))]) = H1 at s1 hl ⊢
    have e1 : ((ansL i).countP (· == true) : Nat) = 1 := by
      match i, i4 with
      | 0, _ => rfl
      | 1, _ => rfl
      | 2, _ => rfl
      | 3, _ => rfl
    refine ⟨.inl ⟨rfl, _, SqL.of hl⟩, l, ansL i, true, rfl, rfl, SqL.of hl, ?_⟩
    rw [e1]
    refine ⟨rfl, _, rfl, ?_⟩
    rw [show (((1 : Nat) : Int)) = 1 from rfl, decide_eq_true rfl]
    refine iteF ?_
    refine ⟨_, rfl, _, _, _, rfl, (fun _ r => r), kd.v, true, rfl, iteF ?_⟩
    refine ⟨by show 4 ≤ sizeLine; decide, fun g ng => ?_⟩
    have s2 : Same H1 (upd H1 g (.lst (words.map V.str))) := sNew ng
    have hg : upd H1 g (.lst (words.map V.str)) g = some (.lst (words.map V.str)) := upd_same
    obtain ⟨w1, w2, w3⟩ := ansL_at i i4
    refine ⟨_, rfl, .inl ⟨rfl, _, SqL.of (s2 _ _ hl)⟩, ?_⟩
    refine ⟨l, _, .bl true, i, .bl true, rfl, rfl, SqL.of (s2 _ _ hl), rfl, w2, w1, rfl, w3, ?_⟩
    refine ⟨g, _, _, _, rfl, rfl, SqL.of hg, atI_nat (by rw [List.getElem?_map, hw]; rfl), ?_⟩
    exact q _ (s1.trans s2)
end
abbrev s_law_bar_by : Stmt := topS 22
abbrev N_law_bar_by : List Str := ["cell", "most", "many", "found", "k"]
theorem sc_law_bar_by : FnScope N_law_bar_by ["cell", "most"] (defScope s_law_bar_by) := ⟨rfl, rfl, rfl, by decide +kernel, rfl, by decide +kernel, by decide +kernel⟩
section
variable {P : Program} {w : World} {K : PySem.W.Frag} {mg : Str → Option Value} {base : Heap}
/-- _law_bar_by(cell, most): a bar -/
def sp_law_bar_by (K : PySem.W.Frag) : Sp := fun vs H Q _ => ∃ (c m : Int), vs = [.int c, .int m] ∧ 1 ≤ m ∧ m ≤ 5 ∧
  ∀ H' p ns, Same H H' → H p = none → H' p = some (.lst (ns.map V.int)) → IsBar m ns → Q (.ref p) H'
theorem ok_law_bar_by {f : Addr} {fd : FuncData} (F : Fun K "_law_bar_by" "_law_bar_by" s_law_bar_by f fd) (m_range : mg "range" = none) (m_sorted : mg "sorted" = none) : FnOk P w K mg base CX0 1 f fd ["cell", "most"] (sp_law_bar_by K) := by
  refine F.ok sc_law_bar_by (fun vs H Q E h => ?_) (fun cdv A outer s H vs Q E hr h => ?_)
  · obtain ⟨c, m, rfl, _⟩ := h
    rfl
  · obtain ⟨c, m, rfl, h1, h5, q⟩ := h
    have hm0 := Int.emod_nonneg c (show m ≠ 0 by omega)
    have hm1 := Int.emod_lt_of_pos c (show 0 < m by omega)
    refine ⟨_, (pss_cons (ps_set (i := 2) sc_law_bar_by.nd rfl (.inl rfl) (pe_op op_add pe_int (pe_op op_mod (pv 0) (pv 1))))
      (pss_cons (ps_set (i := 0) sc_law_bar_by.nd rfl (.inl rfl) (pe_op op_fdiv (pv 0) (pv 1)))
      (pss_cons (ps_set (i := 3) sc_law_bar_by.nd rfl (.inl rfl) (pe_lst pa_nil))
      (pss_cons (ps_for PassesOwn.never rfl (pi_range1 (by rfl) m_range (pa_cons (pv 2) pa_nil)) (pg_name (i := 4) sc_law_bar_by.nd rfl (.inl rfl))
        (pss_cons (ps_expr (pe_bmK (K := K) PySem.F.plainAttrs_list PySem.F.slot_list_append PySem.F.type_list_append mt_append (pv 3) (pa_cons (pe_op op_add pe_int (pe_op op_mod (pv 0) (pv 1))) pa_nil)))
        (pss_one (ps_set (i := 0) sc_law_bar_by.nd rfl (.inl rfl) (pe_op op_fdiv (pv 0) (pv 1))))))
      (pss_one (ps_ret (pe_callBK (sortedRevK (K := K)) (by rfl) m_sorted (by decide +kernel) (pa_cons (pv 3) pa_nil) (pk_cons pe_bl pk_nil)))))))), ?_⟩
    refine ⟨_, rfl, _, rfl, _, _, rfl, rfl, (by show 0 < m; omega), _, _, rfl, rfl, ?_⟩
    refine ⟨_, rfl, _, rfl, _, _, rfl, rfl, ⟨by omega, by omega⟩, Nat.zero_le _, fun o no => ?_⟩
    refine ⟨_, rfl, _, rfl, by omega, by omega,
      for_range (lo := 0) (fun i σ H' => ∃ (c' : Int) (y : Option V) (ds : List Int), σ = [some (.int c'), some (.int m), some (.int (1 + c % m)), some (.ref o), y] ∧ H' = upd H o (.lst (ds.map V.int)) ∧ ds.length = i ∧ ∀ x ∈ ds, 1 ≤ x ∧ x ≤ m)
      ⟨_, none, [], rfl, rfl, rfl, fun x hx => nomatch hx⟩ ?_ ?_⟩
    · rintro i σ H1 hi ⟨c', y, ds, rfl, rfl, el, hx⟩
      have hc0 := Int.emod_nonneg c' (show m ≠ 0 by omega)
      have hc1 := Int.emod_lt_of_pos c' (show 0 < m by omega)
      refine ⟨_, rfl, .inl ⟨rfl, _, SqL.of upd_same⟩, ?_⟩
      refine ⟨_, rfl, _, rfl, _, _, rfl, rfl, (by show 0 < m; omega), _, _, rfl, rfl, o, _, _, rfl, rfl, upd_same, by rw [List.length_map]; exact small' (by omega), ?_⟩
      refine ⟨_, rfl, _, rfl, _, _, rfl, rfl, ⟨by omega, by omega⟩, ?_⟩
      refine ⟨_, _, ds ++ [1 + c' % m], rfl, ?_, by rw [List.length_append, el]; rfl, fun x h => ?_⟩
      · rw [upd_upd, List.map_append]; rfl
      · rcases List.mem_append.mp h with h | h
        · exact hx x h
        · have := List.mem_singleton.mp h
          omega
    · rintro σ H1 ⟨c', y, ds, rfl, rfl, el, hx⟩
      refine ⟨_, rfl, o, ds, rfl, rfl, SqL.of upd_same, fun ns p hp ho np => ?_⟩
      have hlen := hp.length_eq
      refine q _ p ns (sThen (sNew no) np) ?_ upd_same ⟨by omega, by omega, ho, fun x h => hx x (hp.mem_iff.mp h)⟩
      cases e : H p with
      | none => rfl
      | some u =>
        have := sNew (o := .lst (ds.map V.int)) no p u e
        rw [np] at this
        cases this
end
abbrev s_law_behind : Stmt := topS 23
abbrev N_law_behind : List Str := ["bar", "row", "column", "found", "k", "left"]
theorem sc_law_behind : FnScope N_law_behind ["bar", "row", "column"] (defScope s_law_behind) := ⟨rfl, rfl, rfl, by decide +kernel, rfl, by decide +kernel, by decide +kernel⟩
section
variable {P : Program} {w : World} {K : PySem.W.Frag} {mg : Str → Option Value} {base : Heap}
/-- _law_behind(bar, row, column): a new list -/
theorem ok_law_behind {f : Addr} {fd : FuncData} (F : Fun K "_law_behind" "_law_behind" s_law_behind f fd) (m_len : mg "len" = none) (m_range : mg "range" = none) : FnOk P w K mg base CX0 1 f fd ["bar", "row", "column"] (sp_behind K) := by
  refine F.ok sc_law_behind (fun vs H Q E h => ?_) (fun cdv A outer s H vs Q E hr h => ?_)
  · obtain ⟨a, ns, r, c, rfl, _⟩ := h
    rfl
  · obtain ⟨a, ns, r, c, rfl, hS, ib, hm, q⟩ := h
    have hl : (ns.map V.int).length = ns.length := List.length_map _
    have hl5 : ns.length ≤ 5 := by have := ib.le; omega
    obtain ⟨xr, hxr, _, hpos⟩ := mem_bitesL.mp hm
    have hrl : r < ns.length := (List.getElem?_eq_some_iff.mp hxr).1
    refine ⟨_, (pss_cons (ps_set (i := 3) sc_law_behind.nd rfl (.inl rfl) (pe_lst pa_nil))
      (pss_cons (ps_for PassesOwn.never rfl (pi_range1 (by rfl) m_range (pa_cons (pe_callB (lenK (K := K)) (by rfl) m_len PySem.boot_len (pa_cons (pv 0) pa_nil)) pa_nil)) (pg_name (i := 4) sc_law_behind.nd rfl (.inl rfl))
        (pss_cons (ps_set (i := 5) sc_law_behind.nd rfl (.inl rfl) (pe_ix (ixK (K := K)) (pv 0) (pv 4) (fun _ _ => rfl)))
        (pss_cons (ps_if (PW.pt (pw_and (pt_cmpR op_ge (pv 4) (pv 1) (nomark _)) (pw_and1 (pt_cmpR op_gt (pv 5) (pv 2) (nomark _)))))
          (pss_one (ps_set (i := 5) sc_law_behind.nd rfl (.inl rfl) (pv 2)))
          pss_nil)
        (pss_one (ps_if (pt_cmpR op_gt (pv 5) pe_int (nomark _))
          (pss_one (ps_expr (pe_bmK (K := K) PySem.F.plainAttrs_list PySem.F.slot_list_append PySem.F.type_list_append mt_append (pv 3) (pa_cons (pv 5) pa_nil))))
          pss_nil)))))
      (pss_one (ps_ret (pv 3))))), ?_⟩
    refine ⟨Nat.zero_le _, fun o no => ?_⟩
    have s1 : Same H (upd H o (.lst [])) := sNew no
    refine ⟨_, rfl, a, _, rfl, .inl (s1.seq hS), _, rfl, by rw [hl]; omega, by rw [hl]; omega,
      for_range (lo := 0) (fun i σ H' => ∃ (y4 y5 : Option V), σ = [some (.ref a), some (.int (r : Nat)), some (.int (c : Nat)), some (.ref o), y4, y5] ∧ Same H H' ∧ H' o = some (.lst ((behindL (ns.take i) r c).map V.int)))
      ⟨none, none, rfl, s1, by rw [upd_same]; unfold behindL; simp⟩ ?_ ?_⟩
    · rintro i σ H1 hi ⟨y4, y5, rfl, sm, ho⟩
      rw [hl, Int.toNat_natCast] at hi
      have hz := List.getElem?_eq_getElem hi
      have hx := ib.rg ns[i] (List.getElem_mem hi)
      have hzl : ((behindL (ns.take i) r c).map V.int).length ≤ 100 := by
        unfold behindL
        rw [List.length_map, List.length_append, List.length_take, List.length_take]
        split
        · rw [List.length_map, List.length_drop, List.length_take]; omega
        · rw [List.length_nil]; omega
      have more := behindL_snoc (ns.take i) ns[i] r c
      rw [← take_more hz, List.length_take, Nat.min_eq_left (Nat.le_of_lt hi)] at more
      have app : ∀ z : Int, behindL (ns.take (i + 1)) r c = behindL (ns.take i) r c ++ [z] → ∃ (y4 y5 : Option V), [some (V.ref a), some (.int (r : Nat)), some (.int (c : Nat)), some (.ref o), some (.int (i : Nat)), some (.int z)] = [some (.ref a), some (.int (r : Nat)), some (.int (c : Nat)), some (.ref o), y4, y5] ∧
          Same H (upd H1 o (.lst ((behindL (ns.take i) r c).map V.int ++ [.int z]))) ∧ upd H1 o (.lst ((behindL (ns.take i) r c).map V.int ++ [.int z])) o = some (.lst ((behindL (ns.take (i + 1)) r c).map V.int)) := fun z e => by
        refine ⟨_, _, rfl, sPut sm no, ?_⟩
        rw [upd_same, e, List.map_append]
        all_goals rfl
      rw [Int.zero_add]
      refine ⟨_, rfl, _, rfl, a, _, _, _, rfl, rfl, sm.seq hS, at_map hz, ?_⟩
      refine ⟨_, rfl, _, rfl, _, _, rfl, rfl, _, rfl, ite2 (fun c1 => ?_) (fun c1 => iteF ?_)⟩
      · have c1' : r ≤ i := by have := of_decide_eq_true c1; omega
        rw [if_neg (by omega)] at more
        refine ⟨_, rfl, _, rfl, _, _, rfl, rfl, _, rfl, ite2 (fun c2 => ?_) (fun c2 => ?_)⟩
        · have c2' := of_decide_eq_true c2
          refine ⟨_, rfl, _, rfl, _, _, rfl, rfl, _, rfl, ite2 (fun c3 => ?_) (fun c3 => ?_)⟩
          · have c3' := of_decide_eq_true c3
            rw [if_pos (by omega), show min ns[i] (c : Int) = c by omega] at more
            exact ⟨_, rfl, .inl ⟨rfl, _, SqL.of ho⟩, _, rfl, o, _, _, rfl, rfl, ho, small' (by omega), app _ more⟩
          · have c3' := of_decide_eq_false (Bool.eq_false_iff.mpr c3)
            rw [if_neg (by omega), List.append_nil] at more
            exact ⟨_, _, rfl, sm, by rw [more]; exact ho⟩
        · have c2' := of_decide_eq_false (Bool.eq_false_iff.mpr c2)
          rw [if_pos (by omega), show min ns[i] (c : Int) = ns[i] by omega] at more
          refine ⟨_, rfl, _, _, rfl, rfl, _, rfl, ite2 (fun c3 => ?_) (fun c3 => ?_)⟩
          · exact ⟨_, rfl, .inl ⟨rfl, _, SqL.of ho⟩, _, rfl, o, _, _, rfl, rfl, ho, small' (by omega), app _ more⟩
          · have c3' := of_decide_eq_false (Bool.eq_false_iff.mpr c3)
            omega
      · have c1' : i < r := by have := of_decide_eq_false (Bool.eq_false_iff.mpr c1); omega
        rw [if_pos c1'] at more
        refine ⟨_, rfl, _, _, rfl, rfl, _, rfl, ite2 (fun c3 => ?_) (fun c3 => ?_)⟩
        · exact ⟨_, rfl, .inl ⟨rfl, _, SqL.of ho⟩, _, rfl, o, _, _, rfl, rfl, ho, small' (by omega), app _ more⟩
        · have c3' := of_decide_eq_false (Bool.eq_false_iff.mpr c3)
          omega
    · rintro σ H1 ⟨y4, y5, rfl, sm, ho⟩
      rw [hl, Int.toNat_natCast, List.take_length] at ho
      exact ⟨_, rfl, q H1 o sm no ho⟩
end
abbrev s_law_table_by : Stmt := topS 24
abbrev N_law_table_by : List Str := ["script", "at", "most", "k"]
theorem sc_law_table_by : FnScope N_law_table_by ["script", "at", "most"] (defScope s_law_table_by) := ⟨rfl, rfl, rfl, by decide +kernel, rfl, by decide +kernel, by decide +kernel⟩
section
variable {P : Program} {w : World} {K : PySem.W.Frag} {mg : Str → Option Value} {base : Heap}
/-- _law_table_by(script, at, most): a new table -/
def sp_law_table_by (K : PySem.W.Frag) : Sp := fun vs H Q _ => ∃ (a : Addr) (ns : List Int) (k : Nat) (m : Int), vs = [.ref a, .int (k : Nat), .int m] ∧ SqL K H a (ns.map V.int) ∧ 1 ≤ m ∧ m ≤ 5 ∧
  ∀ H' T xs ds, Same H H' → H T = none → H' T = some (.lst xs) → LL H' xs ds → IsTable ds → Q (.ref T) H'
theorem ok_law_table_by {f : Addr} {fd : FuncData} (F : Fun K "_law_table_by" "_law_table_by" s_law_table_by f fd) (m_range : mg "range" = none) (C_law_cell_at : Cal P w K mg base CX0 1 "_law_cell_at" ["script", "k"] (sp_law_cell_at K)) (C_law_bar_by : Cal P w K mg base CX0 1 "_law_bar_by" ["cell", "most"] (sp_law_bar_by K)) :
    FnOk P w K mg base CX0 2 f fd ["script", "at", "most"] (sp_law_table_by K) := by
  refine F.ok sc_law_table_by (fun vs H Q E h => ?_) (fun cdv A outer s H vs Q E hr h => ?_)
  · obtain ⟨a, ns, k, m, rfl, _⟩ := h
    rfl
  · obtain ⟨a, ns, k, m, rfl, hS, m1, m5, q⟩ := h
    have h0 := Int.emod_nonneg (cellAt ns k) (show (4 : Int) ≠ 0 by decide)
    have h1 := Int.emod_lt_of_pos (cellAt ns k) (show (0 : Int) < 4 by decide)
    refine ⟨_, (pss_one (ps_ret (pe_lc (own := [("k", 3)]) (g := gName 3) (tt := tYes) rfl sc_law_table_by.nd (pi_range1 (by rfl) m_range (pa_cons (pe_op op_mod (pe_c C_law_cell_at hr (by decide) pass0 (pa_cons (pv 0) (pa_cons (pv 1) pa_nil))) pe_int) pa_nil)) (blkOk_by (N := N_law_table_by) (sc := defScope s_law_table_by) (by decide +kernel)) (fun _ _ _ _ _ => (pg_name (i := 3) sc_law_table_by.nd rfl (.inl rfl))) (fun _ _ _ _ _ => pts_nil) (fun _ _ _ _ _ => (pe_c C_law_bar_by hr (by decide) pass0 (pa_cons (pe_c C_law_cell_at hr (by decide) pass0 (pa_cons (pv 0) (pa_cons (pe_op op_add (pe_op op_add (pv 1) pe_int) (pv 3)) pa_nil))) (pa_cons (pv 2) pa_nil))))))), ?_⟩
    refine ⟨_, rfl, _, rfl, a, ns, k, rfl, hS, _, _, rfl, rfl, (by show (0 : Int) < 4; decide), _, rfl, by omega, by omega, fun D nD => ?_⟩
    refine lc_range (lo := 0) (n := (cellAt ns k % 4).toNat) (fun i H' => ∃ (ys : List V) (ds : List (List Int)), Same H H' ∧ H' D = some (.lst ys) ∧ LL H' ys ds ∧ (∀ d ∈ ds, IsBar 5 d) ∧ ds.length = i ∧ V.ref D ∉ ys)
      ⟨[], [], sNew nD, upd_same, Paired.nil, fun x hx => (nomatch hx), rfl, by simp⟩ ?_ ?_
    · rintro i H1 hi ⟨ys, ds, s1, hD, ly, ib, el, nm⟩
      refine ⟨rfl, yesT ?_⟩
      refine ⟨_, rfl, _, rfl, _, _, rfl, rfl, _, rfl, _, _, rfl, rfl, a, ns, k + 1 + i, ?_, s1.seq hS, ?_⟩
      · show [V.ref a, V.int ((k : Int) + 1 + (0 + (i : Int)))] = [V.ref a, V.int ((k + 1 + i : Nat) : Int)]
        rw [show (k : Int) + 1 + (0 + (i : Int)) = ((k + 1 + i : Nat) : Int) by omega]
      refine ⟨_, rfl, _, m, rfl, m1, m5, fun H2 b bs s2 nb hb ib2 => ?_⟩
      have Db : D ≠ b := ne_of_none hD nb
      have hyl : ys.length = i := by rw [ly.length, el]
      refine ⟨ys, s2 _ _ hD, small' (by omega), ys ++ [.ref b], ds ++ [bs], sPut (s1.trans s2) nD, upd_same, ?_, ?_, by rw [List.length_append, el]; rfl, fun z => ?_⟩
      · refine LL.snoc (LL.keepM ly fun c cs hm e => ?_) (by rw [upd_ne Db.symm]; exact hb)
        have h1 : c ≠ D := fun z => nm (by rw [← z]; exact hm)
        rw [upd_ne h1]
        exact s2 _ _ e
      · intro d hd
        rcases List.mem_append.mp hd with h | h
        · exact ib d h
        · rw [List.mem_singleton.mp h]
          exact ib2.mono m5
      · rcases List.mem_append.mp z with h | h
        · exact nm h
        · exact Db (V.ref.inj (List.mem_singleton.mp h))
    · rintro H1 ⟨ys, ds, s1, hD, ly, ib, el, nm⟩
      exact q H1 D ys ds s1 nD hD ly ⟨by omega, ib⟩
end
abbrev s_law_lists : Stmt := topS 25
abbrev N_law_lists : List Str := ["found", "due", "k"]
theorem sc_law_lists : FnScope N_law_lists ["found", "due"] (defScope s_law_lists) := ⟨rfl, rfl, rfl, by decide +kernel, rfl, by decide +kernel, by decide +kernel⟩
section
variable {P : Program} {w : World} {K : PySem.W.Frag} {mg : Str → Option Value} {base : Heap}
/-- _law_lists(found, due), of two tables of the same bars -/
def sp_law_lists (K : PySem.W.Frag) : Sp := fun vs H Q _ => ∃ (p d : Addr) (xs ys : List V) (ds : List (List Int)), vs = [.ref p, .ref d] ∧ H p = some (.lst xs) ∧ H d = some (.lst ys) ∧ LL H xs ds ∧ LL H ys ds ∧ ds.length ≤ 1000 ∧ (∀ b ∈ ds, b.length ≤ 1000) ∧ Q (.bl true) H
theorem ok_law_lists {f : Addr} {fd : FuncData} (F : Fun K "_law_lists" "_law_lists" s_law_lists f fd) (m_len : mg "len" = none) (m_range : mg "range" = none) (m_isinstance : mg "isinstance" = none) (m_list : mg "list" = none)
    (C_law_is_list : Cal P w K mg base CX0 2 "_law_is_list" ["found", "due"] (sp_law_is_list K)) : FnOk P w K mg base CX0 3 f fd ["found", "due"] (sp_law_lists K) := by
  refine F.ok sc_law_lists (fun vs H Q E h => ?_) (fun cdv A outer s H vs Q E hr h => ?_)
  · obtain ⟨p, d, xs, ys, ds, rfl, _⟩ := h
    rfl
  · obtain ⟨p, d, xs, ys, ds, rfl, hp, hd, lx, ly, hl, hb, q⟩ := h
    have ex := lx.length
    have ey := ly.length
    refine ⟨_, (pss_cons (ps_if (PW.pt (pw_or (pt_not (pt_val (pe_callB (isiK (K := K)) (by rfl) m_isinstance (by decide +kernel) (pa_cons (pv 0) (pa_cons (pe_bltn (v := .ty "list") (by rfl) m_list (by decide +kernel) rfl) pa_nil))))) (pw_or1 (pt_cmpR op_ne (pe_callB (lenK (K := K)) (by rfl) m_len PySem.boot_len (pa_cons (pv 0) pa_nil)) (pe_callB (lenK (K := K)) (by rfl) m_len PySem.boot_len (pa_cons (pv 1) pa_nil)) (nomark _)))))
        (pss_one (ps_ret pe_bl))
        pss_nil)
      (pss_cons (ps_for PassesOwn.never rfl (pi_range1 (by rfl) m_range (pa_cons (pe_callB (lenK (K := K)) (by rfl) m_len PySem.boot_len (pa_cons (pv 1) pa_nil)) pa_nil)) (pg_name (i := 2) sc_law_lists.nd rfl (.inl rfl))
        (pss_one (ps_if (pt_not (pt_val (pe_c C_law_is_list hr (by decide) pass0 (pa_cons (pe_ix (ixK (K := K)) (pv 0) (pv 2) (fun _ _ => rfl)) (pa_cons (pe_ix (ixK (K := K)) (pv 1) (pv 2) (fun _ _ => rfl)) pa_nil)))))
          (pss_one (ps_ret pe_bl))
          pss_nil)))
      (pss_one (ps_ret pe_bl)))), ?_⟩
    refine ⟨_, rfl, _, _, _, _, true, rfl, .ty _, .base (.lst hp), kit_ty (by decide +kernel), true, rfl, iteF ?_⟩
    refine ⟨_, rfl, p, _, rfl, .inl (SqL.of hp), _, rfl, d, _, rfl, .inl (SqL.of hd), rfl, _, rfl, ?_⟩
    rw [ex, ey, decide_eq_true rfl]
    refine iteF ?_
    refine ⟨_, rfl, d, _, rfl, .inl (SqL.of hd), _, rfl, by omega, by omega,
      for_range (lo := 0) (fun i σ H' => ∃ (y2 : Option V), σ = [some (.ref p), some (.ref d), y2] ∧ H' = H) ⟨none, rfl, rfl⟩ ?_ ?_⟩
    · rintro i σ H1 hi ⟨y2, rfl, rfl⟩
      rw [ey, Int.toNat_natCast] at hi
      have hz := List.getElem?_eq_getElem hi
      obtain ⟨t, ht, hdt⟩ := lx.get hz
      obtain ⟨u, hu, hdu⟩ := ly.get hz
      rw [Int.zero_add]
      refine ⟨_, rfl, _, rfl, p, _, _, _, rfl, rfl, SqL.of hp, atI_nat ht, _, rfl, _, rfl, d, _, _, _, rfl, rfl, SqL.of hd, atI_nat hu, ?_⟩
      exact ⟨t, u, _, rfl, hdt, hdu, hb _ (List.getElem_mem hi), true, rfl, iteF ⟨_, rfl, rfl⟩⟩
    · rintro σ H1 ⟨y2, rfl, rfl⟩
      exact q
end
abbrev s_law_tried : Stmt := topS 26
abbrev N_law_tried : List Str := ["table", "number", "row", "column", "e"]
theorem sc_law_tried : FnScope N_law_tried ["table", "number", "row", "column"] (defScope s_law_tried) := ⟨rfl, rfl, rfl, by decide +kernel, rfl, by decide +kernel, by decide +kernel⟩
section
variable {P : Program} {w : World} {K : PySem.W.Frag} {mg : Str → Option Value} {base : Heap}
/-- _law_tried(table, number, row, column): a new table, or the error's word -/
theorem ok_law_tried {f : Addr} {fd : FuncData} (F : Fun K "_law_tried" "_law_tried" s_law_tried f fd) {cs : Nat → Addr} {cB : Addr} (T_kinds : Kinds K mg cs cB) (C_moved : Cal P w K mg base (L2N.CX P w) 4 "moved" ["table", "number", "row", "column"] (sp_moved K cs))
    (C_law_word_of : CalE P w K mg base 1 "_law_word_of" ["e"] (sp_law_word_of K cs)) : FnOk P w K mg base CX0 5 f fd ["table", "number", "row", "column"] (fun vs H Q _ => sp_moved K cs vs H Q (fun _ _ H' => ∀ H'', Same H' H'' → Q (.str "bite") H'')) := by
  refine F.ok sc_law_tried (fun vs H Q E h => ?_) (fun cdv A outer s H vs Q E hr h => ?_)
  · obtain ⟨a, xs, ds, n, r, c, rfl, _⟩ := h
    rfl
  · obtain ⟨a, xs, ds, n, r, c, rfl, hT, ll, it, q, qe⟩ := h
    refine ⟨_, (pss_one (L2N.ps_try_as (i := 4) (tb := fun W => tRet (tCallS (sp_moved K cs) (WE W) (tCons (tVar 0) (tCons (tVar 1) (tCons (tVar 2) (tCons (tVar 3) tNil)))))) (ts := fun a cls d => tRet (tWord K cs a cls d 4)) (Wout := fun _ _ _ _ => False) rfl rfl sc_law_tried.nd rfl rfl ⟨rfl, by decide, Or.inl T_kinds.gB⟩ nobodyN (fun W pn xe tk _ => pss_one (ps_ret (by exact (pe_cS C_moved hr (by decide) tk (pa_cons (pv 0) (pa_cons (pv 1) (pa_cons (pv 2) (pa_cons (pv 3) pa_nil)))))))) (fun a oe cls d pn hz hf => pss_one (ps_ret (by exact (pe_word C_law_word_of hr (by decide) hz hf (pa_cons (pv 4) pa_nil))))))), ?_⟩
    refine ⟨_, rfl, _, rfl, _, rfl, _, rfl, a, xs, ds, n, r, c, rfl, hT, ll, it, q, fun hm H2 s2 => ?_⟩
    refine ⟨true, T_kinds.o1.m, fun _ e ne => ?_, fun z => Bool.noConfusion z⟩
    refine ⟨cs 1, 1, "bite", rfl, rfl, rfl, T_kinds.k 1 (by decide), by decide, rfl, fun H3 s3 => ?_⟩
    exact qe hm H2 s2 H3 s3
end
abbrev s_law : Stmt := topS 27
abbrev N_law : List Str := ["script", "table", "far", "number", "row", "column", "good", "handed", "bar", "found", "due"]
theorem sc_law : FnScope N_law ["script"] (defScope s_law) := ⟨rfl, rfl, rfl, by decide +kernel, rfl, by decide +kernel, by decide +kernel⟩
section
variable {P : Program} {w : World} {K : PySem.W.Frag} {mg : Str → Option Value} {base : Heap}
theorem four_get {H : Hp} {us : List V} {ps : List (Int × Int)} (h : Paired (fun (x : V) (p : Int × Int) => ∃ t, x = .ref t ∧ H t = some (.tup [.int p.1, .int p.2])) us ps) : ∀ {k : Nat}, k < ps.length → ∃ t x y, us[k]? = some (.ref t) ∧ H t = some (.tup [.int x, .int y]) := by
  induction h with
  | nil => intro k h; simp at h
  | cons r _ ih =>
    intro k h
    match k with
    | 0 =>
      obtain ⟨t, e, z⟩ := r
      exact ⟨t, _, _, by rw [e]; rfl, z⟩
    | k + 1 =>
      obtain ⟨t, x, y, e, z⟩ := ih (k := k) (by simpa using h)
      exact ⟨t, x, y, by simpa using e, z⟩
theorem ok_law {f : Addr} {fd : FuncData} (F : Fun K "law" "law" s_law f fd) (m_len : mg "len" = none) (m_list : mg "list" = none) (m_max : mg "max" = none) (C_law_table_by : Cal P w K mg base CX0 2 "_law_table_by" ["script", "at", "most"] (sp_law_table_by K)) (C_law_cell_at : Cal P w K mg base CX0 1 "_law_cell_at" ["script", "k"] (sp_law_cell_at K))
    {cs : Nat → Addr} (C_law_tried : Cal P w K mg base CX0 5 "_law_tried" ["table", "number", "row", "column"] (fun vs H Q _ => sp_moved K cs vs H Q (fun _ _ H' => ∀ H'', Same H' H'' → Q (.str "bite") H''))) (C_law_behind : Cal P w K mg base CX0 1 "_law_behind" ["bar", "row", "column"] (sp_behind K))
    (C_law_lists : Cal P w K mg base CX0 3 "_law_lists" ["found", "due"] (sp_law_lists K)) : FnOk P w K mg base CX0 6 f fd ["script"] (sp_law K) := by
  refine F.ok sc_law (fun vs H Q E h => ?_) (fun cdv A outer s H vs Q E hr h => ?_)
  · obtain ⟨a, ns, rfl, _⟩ := h
    rfl
  · obtain ⟨a, ns, rfl, hS, h63, q⟩ := h
    refine ⟨_, (pss_cons (ps_set (i := 1) sc_law.nd rfl (.inl rfl) (pe_c C_law_table_by hr (by decide) pass0 (pa_cons (pv 0) (pa_cons pe_int (pa_cons pe_int pa_nil)))))
      (pss_cons (ps_set (i := 2) sc_law.nd rfl (.inl rfl) (pe_op op_mod (pe_c C_law_cell_at hr (by decide) pass0 (pa_cons (pv 0) (pa_cons pe_int pa_nil))) (pe_op op_pow pe_int pe_int)))
      (pss_cons (ps_set (i := 3) sc_law.nd rfl (.inl rfl) (pe_op op_mod (pe_op op_fdiv (pe_c C_law_cell_at hr (by decide) pass0 (pa_cons (pv 0) (pa_cons pe_int pa_nil))) pe_int) (pe_callB (call_max2 rfl) (by rfl) m_max (by decide +kernel) (pa_cons pe_int (pa_cons (pe_callB (lenK (K := K)) (by rfl) m_len PySem.boot_len (pa_cons (pv 1) pa_nil)) pa_nil)))))
      (C8.pss_cut (ps_if (pt_cmpR op_eq (pe_op op_mod (pe_c C_law_cell_at hr (by decide) pass0 (pa_cons (pv 0) (pa_cons pe_int pa_nil))) pe_int) pe_int (nomark _))
        (pss_one (ps_set (i := 3) sc_law.nd rfl (.inl rfl) (pe_ix (ixK (K := K)) (pe_lst (pa_cons (pe_un un_neg pe_int) (pa_cons (pe_callB (lenK (K := K)) (by rfl) m_len PySem.boot_len (pa_cons (pv 1) pa_nil)) (pa_cons (pe_op op_sub (pe_un un_neg pe_int) (pv 2)) (pa_cons (pe_op op_add (pe_callB (lenK (K := K)) (by rfl) m_len PySem.boot_len (pa_cons (pv 1) pa_nil)) (pv 2)) pa_nil))))) (pe_op op_mod (pe_op op_fdiv (pe_c C_law_cell_at hr (by decide) pass0 (pa_cons (pv 0) (pa_cons pe_int pa_nil))) pe_int) pe_int) (fun _ _ => rfl))))
        pss_nil)
      (pss_cons (ps_set (i := 4) sc_law.nd rfl (.inl rfl) (pe_op op_mod (pe_c C_law_cell_at hr (by decide) pass0 (pa_cons (pv 0) (pa_cons pe_int pa_nil))) pe_int))
      (pss_cons (ps_set (i := 5) sc_law.nd rfl (.inl rfl) (pe_op op_mod (pe_c C_law_cell_at hr (by decide) pass0 (pa_cons (pv 0) (pa_cons pe_int pa_nil))) pe_int))
      (C8.pss_cut (ps_if (pt_cmpR op_eq (pe_op op_mod (pe_c C_law_cell_at hr (by decide) pass0 (pa_cons (pv 0) (pa_cons pe_int pa_nil))) pe_int) pe_int (nomark _))
        (pss_one (ps_asg (pe_ix (ixK (K := K)) (pe_lst (pa_cons (pe_tup (pa_cons (pe_op op_sub (pe_un un_neg pe_int) (pv 2)) (pa_cons pe_int pa_nil))) (pa_cons (pe_tup (pa_cons (pe_op op_add pe_int (pv 2)) (pa_cons pe_int pa_nil))) (pa_cons (pe_tup (pa_cons pe_int (pa_cons (pe_op op_sub (pe_un un_neg pe_int) (pv 2)) pa_nil))) (pa_cons (pe_tup (pa_cons pe_int (pa_cons (pe_op op_add pe_int (pv 2)) pa_nil))) pa_nil))))) (pe_op op_mod (pe_op op_fdiv (pe_c C_law_cell_at hr (by decide) pass0 (pa_cons (pv 0) (pa_cons pe_int pa_nil))) pe_int) pe_int) (fun _ _ => rfl)) (pg_tupK (K := K) rfl (pgs_cons (pg_name (i := 4) sc_law.nd rfl (.inl rfl)) (pgs_cons (pg_name (i := 5) sc_law.nd rfl (.inl rfl)) pgs_nil)))))
        pss_nil)
      (pss_cons (ps_set (i := 6) sc_law.nd rfl (.inl rfl) pe_bl)
      (C8.pss_cut (ps_if (PW.pt (pw_and (pt_chain op_le op_lt pe_int (pv 3) (pe_callB (lenK (K := K)) (by rfl) m_len PySem.boot_len (pa_cons (pv 1) pa_nil))) (pw_and1 (pt_chain op_le op_lt pe_int (pv 4) (pe_callB (lenK (K := K)) (by rfl) m_len PySem.boot_len (pa_cons (pe_ix (ixK (K := K)) (pv 1) (pv 3) (fun _ _ => rfl)) pa_nil))))))
        (pss_one (ps_set (i := 6) sc_law.nd rfl (.inl rfl) (pe_and (pe_chain op_le op_lt pe_int (pv 5) (pe_ix (ixK (K := K)) (pe_ix (ixK (K := K)) (pv 1) (pv 3) (fun _ _ => rfl)) (pv 4) (fun _ _ => rfl))) (pe_one (pe_cmpR op_gt (pe_op op_add (pv 4) (pv 5)) pe_int (nomark _))))))
        pss_nil)
      (pss_cons (ps_setLc (i := 7) (own := [("bar", 8)]) (g := gName 8) (tt := tYes) rfl sc_law.nd rfl rfl (sw_true rfl rfl rfl (by decide +kernel)) (pi_listK (K := K) (pv 1)) (blkOk_by (N := N_law) (sc := defScope s_law) (by decide +kernel)) (fun _ _ _ _ _ => (pg_name (i := 8) sc_law.nd rfl (.inl rfl))) (fun _ _ _ _ _ => pts_nil) (fun _ _ _ _ _ => (pe_callTy (listK (K := K)) (by rfl) m_list (by decide +kernel) (pa_cons (pv 8) pa_nil))))
      (pss_cons (ps_set (i := 9) sc_law.nd rfl (.inl rfl) (pe_c C_law_tried hr (by decide) pass0 (pa_cons (pv 7) (pa_cons (pv 3) (pa_cons (pv 4) (pa_cons (pv 5) pa_nil))))))
      (pss_cons (ps_if (pt_cmpR (neDK (K := K) hr.units) (pv 7) (pv 1) (nomark _))
        (pss_one (ps_ret pe_bl))
        pss_nil)
      (pss_cons (ps_if (pt_not (pt_val (pv 6)))
        (pss_one (ps_ret (pe_cmpR op_eq (pv 9) pe_str (nomark _))))
        pss_nil)
      (pss_cons (ps_set (i := 10) sc_law.nd rfl (.inl rfl) (pe_op op_cat (pe_op op_cat (pe_slice (slK (K := K)) (pv 1) po_none (po_some (pv 3))) (pe_lst (pa_cons (pe_c C_law_behind hr (by decide) pass0 (pa_cons (pe_ix (ixK (K := K)) (pv 1) (pv 3) (fun _ _ => rfl)) (pa_cons (pv 4) (pa_cons (pv 5) pa_nil)))) pa_nil))) (pe_slice (slK (K := K)) (pv 1) (po_some (pe_op op_add (pv 3) pe_int)) po_none)))
      (pss_cons (ps_if (pt_not (pt_val (pe_c C_law_lists hr (by decide) pass0 (pa_cons (pv 9) (pa_cons (pv 10) pa_nil)))))
        (pss_one (ps_ret pe_bl))
        pss_nil)
      (pss_cons (ps_for PassesOwn.never rfl (pi_listK (K := K) (pv 9)) (pg_name (i := 8) sc_law.nd rfl (.inl rfl))
        (pss_one (ps_expr (pe_bmK (K := K) PySem.F.plainAttrs_list PySem.F.slot_list_append PySem.F.type_list_append mt_append (pv 8) (pa_cons pe_int pa_nil)))))
      (pss_cons (ps_expr (pe_bmK (K := K) PySem.F.plainAttrs_list PySem.F.slot_list_append PySem.F.type_list_append mt_append (pv 9) (pa_cons (pe_lst (pa_cons pe_int pa_nil)) pa_nil)))
      (pss_one (ps_ret (pe_cmpR (eqDK (K := K) hr.units) (pv 7) (pv 1) (nomark _))))))))))))))))))))), ?_⟩
    refine ⟨_, rfl, a, ns, 0, 5, rfl, hS, by omega, by omega, fun H1 T xs ds s1 nT hT lT it => ?_⟩
    have hS1 := s1.seq hS
    have el := lT.length
    have l3 := it.le
    refine ⟨_, rfl, a, ns, 8, rfl, hS1, _, _, rfl, rfl, by show (0:Int) ≤ 20 ∧ (20:Int) ≤ 1000000 ∧ (10:Int).natAbs < 2 ^ 64; decide, _, _, rfl, rfl, by show (0 : Int) < 10 ^ (20 : Int).toNat; decide, ?_⟩
    refine ⟨_, rfl, a, ns, 4, rfl, hS1, _, _, rfl, rfl, by show (0 : Int) < 4 ∧ (4 : Int) < 1073741824; decide, _, rfl, T, _, rfl, .inl (SqL.of hT), _, _, rfl, _, _, rfl, rfl, by show (0 : Int) < (if ((xs.length : Nat) : Int) > 1 then ((xs.length : Nat) : Int) else 1); split <;> omega, ?_⟩
    -- number
    refine ⟨fun σ' H' => ∃ far n : Int, σ' = [some (.ref a), some (.ref T), some (.int far), some (.int n), none, none, none, none, none, none, none] ∧ Same H1 H', ?_, ?_⟩
    · refine ⟨_, rfl, a, ns, 4, rfl, hS1, _, _, rfl, rfl, by show (0 : Int) < 4; decide, rfl, _, rfl, d2_ (fun h => ?_) (fun h => ⟨_, _, rfl, Same.refl _⟩)⟩
      refine ⟨_, rfl, _, rfl, T, _, rfl, .inl (SqL.of hT), _, rfl, _, rfl, _, _, rfl, rfl, _, rfl, T, _, rfl, .inl (SqL.of hT), _, rfl, _, _, rfl, rfl, ?_⟩
      refine ⟨by show 4 ≤ sizeLine; decide, fun g ng => ?_⟩
      generalize cellAt ns 8 % 10 ^ (20 : Int).toNat = far at *
      have s3 := sNew (o := .lst [.int (-1), .int (xs.length : Nat), .int (-1 - far), .int ((xs.length : Nat) + far)]) ng
      obtain ⟨v, hv⟩ := four_at (-1) (xs.length : Nat) (-1 - far) ((xs.length : Nat) + far) (show 0 ≤ cellAt ns 4 / 4 % 4 by omega) (show cellAt ns 4 / 4 % 4 < 4 by omega)
      refine ⟨_, rfl, a, ns, 4, rfl, s3.seq hS1, _, _, rfl, rfl, by show (0 : Int) < 4 ∧ (4 : Int) < 1073741824; decide, _, _, rfl, rfl, by show (0 : Int) < 4; decide, ?_⟩
      refine ⟨g, _, _, _, rfl, rfl, SqL.of upd_same, hv, ?_⟩
      exact ⟨_, _, rfl, s3⟩
    rintro σ' H2 ⟨far, n, rfl, s2⟩
    -- row, column
    refine ⟨_, rfl, a, ns, 5, rfl, s2.seq hS1, _, _, rfl, rfl, by show (0 : Int) < 5; decide, ?_⟩
    refine ⟨_, rfl, a, ns, 6, rfl, s2.seq hS1, _, _, rfl, rfl, by show (0 : Int) < 5; decide, ?_⟩
    refine ⟨fun σ' H' => ∃ far n r c : Int, σ' = [some (.ref a), some (.ref T), some (.int far), some (.int n), some (.int r), some (.int c), none, none, none, none, none] ∧ Same H1 H', ?_, ?_⟩
    · refine ⟨_, rfl, a, ns, 7, rfl, s2.seq hS1, _, _, rfl, rfl, by show (0 : Int) < 4; decide, rfl, _, rfl, d2_ (fun h => ?_) (fun h => ⟨_, _, _, _, rfl, s2⟩)⟩
      refine ⟨_, rfl, _, rfl, _, _, rfl, rfl, by show 2 ≤ sizeLine; decide, fun u0 n0 => ?_⟩
      have t0 := sNew (o := .tup [.int (-1 - far), .int 0]) n0
      have e0 : upd H2 u0 (.tup [.int (-1 - far), .int 0]) u0 = some (.tup [.int (-1 - far), .int 0]) := upd_same
      generalize upd H2 u0 (.tup [.int (-1 - far), .int 0]) = G0 at t0 e0 ⊢
      refine ⟨_, rfl, _, _, rfl, rfl, by show 2 ≤ sizeLine; decide, fun u1 n1 => ?_⟩
      have t1 := sNew (o := .tup [.int (5 + far), .int 0]) n1
      have e1 : upd G0 u1 (.tup [.int (5 + far), .int 0]) u1 = some (.tup [.int (5 + far), .int 0]) := upd_same
      generalize upd G0 u1 (.tup [.int (5 + far), .int 0]) = G1 at t1 e1 ⊢
      refine ⟨_, rfl, _, rfl, _, _, rfl, rfl, by show 2 ≤ sizeLine; decide, fun u2 n2 => ?_⟩
      have t2 := sNew (o := .tup [.int 0, .int (-1 - far)]) n2
      have e2 : upd G1 u2 (.tup [.int 0, .int (-1 - far)]) u2 = some (.tup [.int 0, .int (-1 - far)]) := upd_same
      generalize upd G1 u2 (.tup [.int 0, .int (-1 - far)]) = G2 at t2 e2 ⊢
      refine ⟨_, rfl, _, _, rfl, rfl, by show 2 ≤ sizeLine; decide, fun u3 n3 => ?_⟩
      have t3 := sNew (o := .tup [.int 0, .int (5 + far)]) n3
      have e3 : upd G2 u3 (.tup [.int 0, .int (5 + far)]) u3 = some (.tup [.int 0, .int (5 + far)]) := upd_same
      generalize upd G2 u3 (.tup [.int 0, .int (5 + far)]) = G3 at t3 e3 ⊢
      refine ⟨by show 4 ≤ sizeLine; decide, fun g ng => ?_⟩
      have t4 := sNew (o := .lst [.ref u0, .ref u1, .ref u2, .ref u3]) ng
      have e4 : upd G3 g (.lst [.ref u0, .ref u1, .ref u2, .ref u3]) g = some (.lst [.ref u0, .ref u1, .ref u2, .ref u3]) := upd_same
      generalize upd G3 g (.lst [.ref u0, .ref u1, .ref u2, .ref u3]) = G4 at t4 e4 ⊢
      have all : Paired (fun (x : V) (p : Int × Int) => ∃ t, x = .ref t ∧ G4 t = some (.tup [.int p.1, .int p.2])) [.ref u0, .ref u1, .ref u2, .ref u3] [(-1 - far, 0), (5 + far, 0), (0, -1 - far), (0, 5 + far)] :=
        .cons ⟨u0, rfl, t4 _ _ (t3 _ _ (t2 _ _ (t1 _ _ e0)))⟩ (.cons ⟨u1, rfl, t4 _ _ (t3 _ _ (t2 _ _ e1))⟩ (.cons ⟨u2, rfl, t4 _ _ (t3 _ _ e2)⟩ (.cons ⟨u3, rfl, t4 _ _ e3⟩ .nil)))
      have s4 : Same H2 G4 := t0.trans (t1.trans (t2.trans (t3.trans t4)))
      obtain ⟨k, ek, hk⟩ : ∃ k : Nat, cellAt ns 7 / 4 % 4 = (k : Int) ∧ k < 4 := ⟨(cellAt ns 7 / 4 % 4).toNat, by omega, by omega⟩
      obtain ⟨t, x, y, ht, hx⟩ := four_get all (k := k) hk
      refine ⟨_, rfl, a, ns, 7, rfl, (s2.trans s4).seq hS1, _, _, rfl, rfl, by show (0 : Int) < 4 ∧ (4 : Int) < 1073741824; decide, _, _, rfl, rfl, by show (0 : Int) < 4; decide, ?_⟩
      refine ⟨g, _, (k : Int), _, rfl, congrArg V.int ek, SqL.of e4, atI_nat ht, ?_⟩
      refine ⟨t, _, rfl, SqT.of hx, rfl, _, _, rfl, _, _, rfl, rfl, ?_⟩
      exact ⟨_, _, _, _, rfl, s2.trans s4⟩
    clear s2 H2 far n
    rintro σ' H2 ⟨far, n, r, c, rfl, s2⟩
    have hT2 := s2 _ _ hT
    have lT2 := lT.same s2
    -- good
    refine ⟨fun σ' H' => ∃ (g : Bool) (far : Int), σ' = [some (.ref a), some (.ref T), some (.int far), some (.int n), some (.int r), some (.int c), some (.bl g), none, none, none, none] ∧ H' = H2 ∧ (g = true ↔ CanBite ds n r c), ?_, ?_⟩
    · have no : ¬ CanBite ds n r c → (false = true ↔ CanBite ds n r c) := fun h => ⟨fun z => Bool.noConfusion z, fun z => absurd z h⟩
      have at_ : ∀ {k : Nat} {d : List Int}, ds[k]? = some d → (k : Int) = n → (CanBite ds n r c ↔ [r, c] ∈ (bitesL d).map pr) := fun {k d} hd e => by
        constructor
        · rintro ⟨k', d', e', hd', hb⟩
          have : k = k' := by omega
          rw [← this, hd] at hd'
          rw [Option.some.inj hd']
          exact hb
        · exact fun hb => ⟨k, d, e.symm, hd, hb⟩
      have lim : CanBite ds n r c → 0 ≤ n ∧ n < (xs.length : Int) := fun ⟨k, d, e, hd, _⟩ => by
        have := (List.getElem?_eq_some_iff.mp hd).1
        omega
      refine ⟨_, rfl, _, _, rfl, rfl, _, rfl, d2_ (fun h1 => ?_) (fun h1 => ⟨false, rfl, iteF (iteF ⟨false, _, rfl, rfl, no fun z => h1 (lim z).1⟩)⟩)⟩
      refine ⟨_, rfl, T, _, rfl, .inl (SqL.of hT2), _, _, rfl, rfl, _, rfl, d2_ (fun h2 => ?_) (fun h2 => iteF ⟨false, _, rfl, rfl, no fun z => h2 (lim z).2⟩)⟩
      obtain ⟨k, rfl, hk⟩ : ∃ k : Nat, n = (k : Int) ∧ k < ds.length := ⟨n.toNat, by omega, by omega⟩
      have hd := List.getElem?_eq_getElem hk
      generalize ds[k] = d at hd
      have ib := it.is d (List.mem_of_getElem? hd)
      obtain ⟨t, ht, hdt⟩ := lT2.get hd
      have cb := at_ hd rfl
      have lb := List.length_map (as := d) V.int
      have bits : CanBite ds k r c → 0 ≤ r ∧ r < (d.length : Int) := fun z => by
        obtain ⟨⟨i, j⟩, hp, e⟩ := List.mem_map.mp (cb.mp z)
        have e : [(i : Int), (j : Int)] = [r, c] := e
        injection e with e1 e2
        obtain ⟨y, hy, _, _⟩ := mem_bitesL.mp hp
        have hy : d[i]? = some y := hy
        have := (List.getElem?_eq_some_iff.mp hy).1
        omega
      refine ⟨_, rfl, _, _, rfl, rfl, _, rfl, d2_ (fun h3 => ?_) (fun h3 => ⟨false, rfl, iteF ⟨false, _, rfl, rfl, no fun z => h3 (bits z).1⟩⟩)⟩
      refine ⟨_, rfl, _, rfl, T, _, _, _, rfl, rfl, SqL.of hT2, atI_nat ht, t, _, rfl, .inl (SqL.of hdt), _, _, rfl, rfl, _, rfl, d2_ (fun h4 => ?_) (fun h4 => ⟨false, _, rfl, rfl, no fun z => h4 (by rw [lb]; exact (bits z).2)⟩)⟩
      obtain ⟨i, rfl, hi⟩ : ∃ i : Nat, r = (i : Int) ∧ i < d.length := ⟨r.toNat, by omega, by omega⟩
      have hz := List.getElem?_eq_getElem hi
      have gm := good_mem (r := (i : Int)) (c := c) (k := i) (Int.emod_eq_of_lt (by omega) (by omega)) hz
      refine ⟨_, rfl, _, _, rfl, rfl, _, rfl, d2_ (fun h5 => ?_) (fun h5 => ⟨false, rfl, iteF ⟨false, _, rfl, rfl, no fun z => h5 (gm.mp (cb.mp z)).2.1.1⟩⟩)⟩
      refine ⟨_, rfl, _, rfl, T, _, _, _, rfl, rfl, SqL.of hT2, atI_nat ht, _, rfl, t, _, _, _, rfl, rfl, SqL.of hdt, at_map hz, _, _, rfl, rfl, _, rfl, d2_ (fun h6 => ?_) (fun h6 => ⟨false, _, rfl, rfl, no fun z => h6 (gm.mp (cb.mp z)).2.1.2⟩)⟩
      refine ⟨_, rfl, _, rfl, _, _, rfl, rfl, _, _, rfl, rfl, _, _, rfl, rfl, ?_⟩
      rw [decide_eq_true_iff, cb, gm]
      exact ⟨fun h7 => ⟨⟨by omega, by omega⟩, ⟨h5, h6⟩, h7⟩, fun z => z.2.2⟩
    clear far
    rintro σ' H3 ⟨g, far, rfl, rfl, gi⟩
    -- handed
    refine ⟨_, rfl, T, rfl, ⟨_, SqL.of hT2⟩, fun G nG => ?_⟩
    refine copy_loop (T := T) (xs := xs) (ds := ds) (by show 8 < 11; omega) (SqL.of hT2) lT2 (by omega) nG fun H4 ys s4 hG lG nw nm => ?_
    have hT4 := s4 _ _ hT2
    have lT4 := lT2.same s4
    refine ⟨_, rfl, _, rfl, _, rfl, _, rfl, G, ys, ds, n, r, c, rfl, hG, lG, it, (fun k i j d en er ec hd hb H5 p zs s5 np hp lz nz nmz => ?_), (fun hm H5 s5 H6 s6 => ?_)⟩
    · subst en er ec
      have ge : g = true := gi.mpr ⟨k, d, rfl, hd, pr_mem.mpr hb⟩
      subst ge
      have hT5 := s5 _ _ hT4
      have lT5 := lT4.same s5
      have hG5 := s5 _ _ hG
      have lG5 := lG.same s5
      refine ⟨_, rfl, _, rfl, _, _, dp_table (SqL.of hG5) lG5, dp_table (SqL.of hT5) lT5, shaped_lsts _, shaped_lsts _, _, rfl, ?_⟩
      rw [eqv_table, decide_eq_true rfl]
      refine iteF ⟨_, rfl, true, rfl, iteF ?_⟩
      have hk : k < ds.length := (List.getElem?_eq_some_iff.mp hd).1
      have ib := it.is d (List.mem_of_getElem? hd)
      -- due
      refine ⟨_, rfl, _, rfl, (k : Int), rfl, T, _, rfl, SqL.of hT5, fun D0 nD0 => ?_⟩
      rw [cut_take]
      have d0 := sNew (o := .lst (xs.take k)) nD0
      have f0 : upd H5 D0 (.lst (xs.take k)) D0 = some (.lst (xs.take k)) := upd_same
      generalize upd H5 D0 (.lst (xs.take k)) = J0 at d0 f0 ⊢
      obtain ⟨t, ht, hdt⟩ := (lT5.same d0).get hd
      refine ⟨_, rfl, _, rfl, T, _, _, _, rfl, rfl, SqL.of (d0 _ _ hT5), atI_nat ht, _, rfl, _, rfl, t, d, i, j, rfl, SqL.of hdt, ib, hb, fun J1 z d1 nz1 hz1 => ?_⟩
      refine ⟨by show 1 ≤ sizeLine; decide, fun D1 nD1 => ?_⟩
      have d2 := sNew (o := .lst [.ref z]) nD1
      have f1 : upd J1 D1 (.lst [.ref z]) D1 = some (.lst [.ref z]) := upd_same
      generalize upd J1 D1 (.lst [.ref z]) = J2 at d2 f1 ⊢
      have g2 : Same J0 J2 := d1.trans d2
      refine ⟨D0, D1, _, _, rfl, rfl, g2 _ _ f0, f1, by rw [List.length_take]; exact small (by show min k xs.length + 1 ≤ 100000; omega), fun D2 nD2 => ?_⟩
      have d3 := sNew (o := .lst (xs.take k ++ [.ref z])) nD2
      have f2 : upd J2 D2 (.lst (xs.take k ++ [.ref z])) D2 = some (.lst (xs.take k ++ [.ref z])) := upd_same
      generalize upd J2 D2 (.lst (xs.take k ++ [.ref z])) = J3 at d3 f2 ⊢
      have g3 : Same H5 J3 := d0.trans (g2.trans d3)
      refine ⟨_, rfl, _, rfl, _, _, rfl, rfl, ((k + 1 : Nat) : Int), congrArg V.int (by omega), T, _, rfl, SqL.of (g3 _ _ hT5), fun D3 nD3 => ?_⟩
      rw [cut_drop]
      have d4 := sNew (o := .lst (xs.drop (k + 1))) nD3
      have f3 : upd J3 D3 (.lst (xs.drop (k + 1))) D3 = some (.lst (xs.drop (k + 1))) := upd_same
      generalize upd J3 D3 (.lst (xs.drop (k + 1))) = J4 at d4 f3 ⊢
      refine ⟨D2, D3, _, _, rfl, rfl, d4 _ _ f2, f3, by rw [List.length_append, List.length_take, List.length_drop]; exact small (by show min k xs.length + 1 + (xs.length - (k + 1)) ≤ 100000; omega), fun D4 nD4 => ?_⟩
      have ex : xs.take k ++ [V.ref z] ++ xs.drop (k + 1) = xs.set k (.ref z) := by
        rw [List.set_eq_take_append_cons_drop, if_pos (by omega), List.append_assoc]
        rfl
      rw [ex]
      have d5 := sNew (o := .lst (xs.set k (.ref z))) nD4
      have f4 : upd J4 D4 (.lst (xs.set k (.ref z))) D4 = some (.lst (xs.set k (.ref z))) := upd_same
      generalize upd J4 D4 (.lst (xs.set k (.ref z))) = J5 at d5 f4 ⊢
      have g5 : Same H5 J5 := g3.trans (d4.trans d5)
      have hz5 : J5 z = some (.lst ((behindL d i j).map V.int)) := d5 _ _ (d4 _ _ (d3 _ _ (d2 _ _ hz1)))
      have lD := LL.set hz5 k (lT5.same g5)
      have ibb : IsBar 5 (behindL d i j) := isBar_behind ib hb
      have len5 : ∀ b ∈ ds.set k (behindL d i j), b.length ≤ 5 := fun b hb' => by
        rcases List.mem_or_eq_of_mem_set hb' with h | h
        · have := (it.is b h).le
          omega
        · rw [h]
          have := ibb.le
          omega
      have ez : zs.length = ds.length := by rw [lz.length, List.length_set]
      refine ⟨_, rfl, _, rfl, p, D4, zs, _, _, rfl, g5 _ _ hp, f4, lz.same g5, lD, by rw [List.length_set]; omega, fun b hb' => by have := len5 b hb'; omega, true, rfl, iteF ?_⟩
      -- the found bars are spoilt
      have p4 : H4 p = none := np
      have sJ : Same H4 J5 := s5.trans g5
      refine ⟨_, rfl, p, rfl, ⟨_, SqL.of (g5 _ _ hp)⟩, for_list (K := K) (a := p) (xs := zs) (fun m σ H' => ∃ v8 : Option V, σ = [some (.ref a), some (.ref T), some (.int far), some (.int (k : Nat)), some (.int (i : Nat)), some (.int (j : Nat)), some (.bl true), some (.ref G), v8, some (.ref p), some (.ref D4)] ∧ Same H4 H' ∧ H' p = some (.lst zs) ∧
        ∀ y ∈ zs, ∃ t l, y = V.ref t ∧ H' t = some (.lst l) ∧ l.length ≤ 5 + m) ⟨_, rfl, sJ, g5 _ _ hp, fun y hy => ?_⟩ (fun _ _ _ _ ⟨_, _, _, h, _⟩ => SqL.of h) ?_ ?_⟩
      · obtain ⟨m, hm⟩ := List.mem_iff_getElem?.mp hy
        obtain ⟨t, b, hb', e, ht'⟩ := (lz.same g5).at hm
        refine ⟨t, _, e, ht', ?_⟩
        rw [List.length_map]
        exact len5 b (List.mem_of_getElem? hb')
      · rintro m y σ H6 hm ⟨v8, rfl, s6, hp6, all⟩
        obtain ⟨t, l, rfl, ht6, hl6⟩ := all y (List.mem_of_getElem? hm)
        have hm3 := (List.getElem?_eq_some_iff.mp hm).1
        have pt : p ≠ t := fun e => nmz (by rw [e]; exact List.mem_of_getElem? hm)
        refine ⟨_, rfl, .inl ⟨rfl, _, SqL.of ht6⟩, t, l, _, rfl, rfl, ht6, small' (by omega), ?_⟩
        refine ⟨_, rfl, sPut s6 (nz _ (List.mem_of_getElem? hm) t rfl), by rw [upd_ne pt]; exact hp6, fun y' hy' => ?_⟩
        obtain ⟨t', l', e', ht', hl'⟩ := all y' hy'
        by_cases h : t' = t
        · refine ⟨t, l ++ [.int 1], by rw [e', h], upd_same, ?_⟩
          rw [List.length_append]
          show l.length + 1 ≤ _
          omega
        · exact ⟨t', l', e', by rw [upd_ne h]; exact ht', by omega⟩
      · rintro σ H6 ⟨v8, rfl, s6, hp6, all⟩
        refine ⟨_, rfl, .inl ⟨rfl, _, SqL.of hp6⟩, by show 1 ≤ sizeLine; decide, fun u nu => ?_⟩
        have pu : p ≠ u := ne_of_none hp6 nu
        refine ⟨p, zs, _, rfl, rfl, by rw [upd_ne pu]; exact hp6, small' (by omega), ?_⟩
        have s7 := sPut (o := .lst (zs ++ [.ref u])) (sThen (o := .lst [.int 1]) s6 nu) p4
        refine ⟨_, rfl, _, rfl, _, _, dp_table (SqL.of (s7 _ _ hG)) (lG.same s7), dp_table (SqL.of (s7 _ _ hT4)) (lT4.same s7), shaped_lsts _, shaped_lsts _, ?_⟩
        rw [eqv_table, decide_eq_true rfl]
        exact q _
    · have ge : g = false := Bool.eq_false_iff.mpr fun z => hm (gi.mp z)
      subst ge
      have s46 := s4.trans (s5.trans s6)
      have s56 := s5.trans s6
      refine ⟨_, rfl, _, rfl, _, _, dp_table (SqL.of (s56 _ _ hG)) (lG.same s56), dp_table (SqL.of (s46 _ _ hT2)) (lT2.same s46), shaped_lsts _, shaped_lsts _, _, rfl, ?_⟩
      rw [eqv_table, decide_eq_true rfl]
      refine iteF ⟨_, rfl, false, rfl, iteT ?_⟩
      refine ⟨_, rfl, rfl, ?_⟩
      rw [decide_eq_true rfl]
      exact q _
end
theorem all_mk {l : PySem.W.OpenLaw} {w : World} {K : PySem.W.Frag} {h : Heap} {mg : Str → Option Value} {fa f0 f1 f2 f3 f4 f5 f6 f7 f8 f9 f10 f11 f12 f13 f14 f15 : Addr} (X : K.In h) (G : h.Ns mainGlobals mg) (hfa : mg "law" = some (.ref fa))
    {od0 an0 od1 an1 od2 an2 od3 an3 od4 an4 od5 an5 od6 an6 od7 an7 od8 an8 od9 an9 od10 an10 od11 an11 od12 an12 od13 an13 od14 an14 od15 an15 : Option Addr} {sl0 sl1 sl2 sl3 sl4 sl5 sl6 sl7 sl8 sl9 sl10 sl11 sl12 sl13 sl14 sl15 : Array (Option Value)} {oc0 kV0 dc0 pm0 cd0 ct0 oc1 kV1 dc1 pm1 cd1 ct1 oc2 kV2 dc2 pm2 cd2 ct2 oc3 kV3 dc3 pm3 cd3 ct3 oc4 kV4 dc4 pm4 cd4 ct4 oc5 kV5 dc5 pm5 cd5 ct5 oc6 kV6 dc6 pm6 cd6 ct6 oc7 kV7 dc7 pm7 cd7 ct7 oc8 kV8 dc8 pm8 cd8 ct8 oc9 kV9 dc9 pm9 cd9 ct9 oc10 kV10 dc10 pm10 cd10 ct10 oc11 kV11 dc11 pm11 cd11 ct11 oc12 kV12 dc12 pm12 cd12 ct12 oc13 kV13 dc13 pm13 cd13 ct13 oc14 kV14 dc14 pm14 cd14 ct14 oc15 kV15 dc15 pm15 cd15 ct15 : Value}
    (a0 : PySem.W.nsIn K mainGlobals "is_bar" = some (some (.ref f0))) (l0 : K.lookup f0 = some ⟨oc0, od0, .func (PySem.W.fnOf "is_bar" "is_bar" (defArgs s_is_bar) (defBody s_is_bar) (defScope s_is_bar) .none kV0 dc0 pm0 an0 cd0 ct0), sl0⟩) (c0 : PySem.W.codeIn K cd0 "is_bar" = true) (k0 : PySem.W.keepIn K (.ref f0) = true)
    (a1 : PySem.W.nsIn K mainGlobals "asked_bar" = some (some (.ref f1))) (l1 : K.lookup f1 = some ⟨oc1, od1, .func (PySem.W.fnOf "asked_bar" "asked_bar" (defArgs s_asked_bar) (defBody s_asked_bar) (defScope s_asked_bar) .none kV1 dc1 pm1 an1 cd1 ct1), sl1⟩) (c1 : PySem.W.codeIn K cd1 "asked_bar" = true) (k1 : PySem.W.keepIn K (.ref f1) = true)
    (a2 : PySem.W.nsIn K mainGlobals "bites_of" = some (some (.ref f2))) (l2 : K.lookup f2 = some ⟨oc2, od2, .func (PySem.W.fnOf "bites_of" "bites_of" (defArgs s_bites_of) (defBody s_bites_of) (defScope s_bites_of) .none kV2 dc2 pm2 an2 cd2 ct2), sl2⟩) (c2 : PySem.W.codeIn K cd2 "bites_of" = true) (k2 : PySem.W.keepIn K (.ref f2) = true)
    (a3 : PySem.W.nsIn K mainGlobals "behind" = some (some (.ref f3))) (l3 : K.lookup f3 = some ⟨oc3, od3, .func (PySem.W.fnOf "behind" "behind" (defArgs s_behind) (defBody s_behind) (defScope s_behind) .none kV3 dc3 pm3 an3 cd3 ct3), sl3⟩) (c3 : PySem.W.codeIn K cd3 "behind" = true) (k3 : PySem.W.keepIn K (.ref f3) = true)
    (a4 : PySem.W.nsIn K mainGlobals "asked_table" = some (some (.ref f4))) (l4 : K.lookup f4 = some ⟨oc4, od4, .func (PySem.W.fnOf "asked_table" "asked_table" (defArgs s_asked_table) (defBody s_asked_table) (defScope s_asked_table) .none kV4 dc4 pm4 an4 cd4 ct4), sl4⟩) (c4 : PySem.W.codeIn K cd4 "asked_table" = true) (k4 : PySem.W.keepIn K (.ref f4) = true)
    (a5 : PySem.W.nsIn K mainGlobals "moved" = some (some (.ref f5))) (l5 : K.lookup f5 = some ⟨oc5, od5, .func (PySem.W.fnOf "moved" "moved" (defArgs s_moved) (defBody s_moved) (defScope s_moved) .none kV5 dc5 pm5 an5 cd5 ct5), sl5⟩) (c5 : PySem.W.codeIn K cd5 "moved" = true) (k5 : PySem.W.keepIn K (.ref f5) = true)
    (a6 : PySem.W.nsIn K mainGlobals "_law_cell_at" = some (some (.ref f6))) (l6 : K.lookup f6 = some ⟨oc6, od6, .func (PySem.W.fnOf "_law_cell_at" "_law_cell_at" (defArgs s_law_cell_at) (defBody s_law_cell_at) (defScope s_law_cell_at) .none kV6 dc6 pm6 an6 cd6 ct6), sl6⟩) (c6 : PySem.W.codeIn K cd6 "_law_cell_at" = true) (k6 : PySem.W.keepIn K (.ref f6) = true)
    (a7 : PySem.W.nsIn K mainGlobals "_law_whole" = some (some (.ref f7))) (l7 : K.lookup f7 = some ⟨oc7, od7, .func (PySem.W.fnOf "_law_whole" "_law_whole" (defArgs s_law_whole) (defBody s_law_whole) (defScope s_law_whole) .none kV7 dc7 pm7 an7 cd7 ct7), sl7⟩) (c7 : PySem.W.codeIn K cd7 "_law_whole" = true) (k7 : PySem.W.keepIn K (.ref f7) = true)
    (a8 : PySem.W.nsIn K mainGlobals "_law_is_list" = some (some (.ref f8))) (l8 : K.lookup f8 = some ⟨oc8, od8, .func (PySem.W.fnOf "_law_is_list" "_law_is_list" (defArgs s_law_is_list) (defBody s_law_is_list) (defScope s_law_is_list) .none kV8 dc8 pm8 an8 cd8 ct8), sl8⟩) (c8 : PySem.W.codeIn K cd8 "_law_is_list" = true) (k8 : PySem.W.keepIn K (.ref f8) = true)
    (a9 : PySem.W.nsIn K mainGlobals "_law_word_of" = some (some (.ref f9))) (l9 : K.lookup f9 = some ⟨oc9, od9, .func (PySem.W.fnOf "_law_word_of" "_law_word_of" (defArgs s_law_word_of) (defBody s_law_word_of) (defScope s_law_word_of) .none kV9 dc9 pm9 an9 cd9 ct9), sl9⟩) (c9 : PySem.W.codeIn K cd9 "_law_word_of" = true) (k9 : PySem.W.keepIn K (.ref f9) = true)
    (a10 : PySem.W.nsIn K mainGlobals "_law_bar_by" = some (some (.ref f10))) (l10 : K.lookup f10 = some ⟨oc10, od10, .func (PySem.W.fnOf "_law_bar_by" "_law_bar_by" (defArgs s_law_bar_by) (defBody s_law_bar_by) (defScope s_law_bar_by) .none kV10 dc10 pm10 an10 cd10 ct10), sl10⟩) (c10 : PySem.W.codeIn K cd10 "_law_bar_by" = true) (k10 : PySem.W.keepIn K (.ref f10) = true)
    (a11 : PySem.W.nsIn K mainGlobals "_law_behind" = some (some (.ref f11))) (l11 : K.lookup f11 = some ⟨oc11, od11, .func (PySem.W.fnOf "_law_behind" "_law_behind" (defArgs s_law_behind) (defBody s_law_behind) (defScope s_law_behind) .none kV11 dc11 pm11 an11 cd11 ct11), sl11⟩) (c11 : PySem.W.codeIn K cd11 "_law_behind" = true) (k11 : PySem.W.keepIn K (.ref f11) = true)
    (a12 : PySem.W.nsIn K mainGlobals "_law_table_by" = some (some (.ref f12))) (l12 : K.lookup f12 = some ⟨oc12, od12, .func (PySem.W.fnOf "_law_table_by" "_law_table_by" (defArgs s_law_table_by) (defBody s_law_table_by) (defScope s_law_table_by) .none kV12 dc12 pm12 an12 cd12 ct12), sl12⟩) (c12 : PySem.W.codeIn K cd12 "_law_table_by" = true) (k12 : PySem.W.keepIn K (.ref f12) = true)
    (a13 : PySem.W.nsIn K mainGlobals "_law_lists" = some (some (.ref f13))) (l13 : K.lookup f13 = some ⟨oc13, od13, .func (PySem.W.fnOf "_law_lists" "_law_lists" (defArgs s_law_lists) (defBody s_law_lists) (defScope s_law_lists) .none kV13 dc13 pm13 an13 cd13 ct13), sl13⟩) (c13 : PySem.W.codeIn K cd13 "_law_lists" = true) (k13 : PySem.W.keepIn K (.ref f13) = true)
    (a14 : PySem.W.nsIn K mainGlobals "_law_tried" = some (some (.ref f14))) (l14 : K.lookup f14 = some ⟨oc14, od14, .func (PySem.W.fnOf "_law_tried" "_law_tried" (defArgs s_law_tried) (defBody s_law_tried) (defScope s_law_tried) .none kV14 dc14 pm14 an14 cd14 ct14), sl14⟩) (c14 : PySem.W.codeIn K cd14 "_law_tried" = true) (k14 : PySem.W.keepIn K (.ref f14) = true)
    (a15 : PySem.W.nsIn K mainGlobals "law" = some (some (.ref f15))) (l15 : K.lookup f15 = some ⟨oc15, od15, .func (PySem.W.fnOf "law" "law" (defArgs s_law) (defBody s_law) (defScope s_law) .none kV15 dc15 pm15 an15 cd15 ct15), sl15⟩) (c15 : PySem.W.codeIn K cd15 "law" = true) (k15 : PySem.W.keepIn K (.ref f15) = true)
    (z_len : PySem.W.nsIn K mainGlobals "len" = some none)
    (z_range : PySem.W.nsIn K mainGlobals "range" = some none)
    (z_int : PySem.W.nsIn K mainGlobals "int" = some none)
    (z_list : PySem.W.nsIn K mainGlobals "list" = some none)
    (z_min : PySem.W.nsIn K mainGlobals "min" = some none)
    (z_isinstance : PySem.W.nsIn K mainGlobals "isinstance" = some none)
    (z_bool : PySem.W.nsIn K mainGlobals "bool" = some none)
    (z_ValueError : PySem.W.nsIn K mainGlobals "ValueError" = some none)
    (z_sorted : PySem.W.nsIn K mainGlobals "sorted" = some none)
    (z_max : PySem.W.nsIn K mainGlobals "max" = some none)
    {t_MOST_ROWS : Tok} (y_MOST_ROWS : PySem.W.nsIn K mainGlobals "MOST_ROWS" = some (some (.int 5 t_MOST_ROWS)))
    {t_MOST_PIECES : Tok} (y_MOST_PIECES : PySem.W.nsIn K mainGlobals "MOST_PIECES" = some (some (.int 5 t_MOST_PIECES)))
    {t_MOST : Tok} (y_MOST : PySem.W.nsIn K mainGlobals "MOST" = some (some (.int 3 t_MOST)))
    {e0 e1 e2 e3 eB : Addr} (ce_a : PySem.W.nsIn K mainGlobals "BiteError" = some (some (.ref eB))) (cB_b : PySem.W.subIn K (.ref eB) (.type "BaseException") = some true) (cB_d : PySem.W.hasDictIn K eB = true) (cB_t : PySem.W.typeIn K (.ref eB) = some (.type "type"))
    (cs_n : PySem.W.specialIn K (.builtin "object.__class__") "__get__" = some (some (.builtin "getset_descriptor.__get__"))) (cs_t : PySem.W.takesIn K (.builtin "object.__class__") = some true)
    (ca_0 : PySem.W.nsIn K mainGlobals "NoBar" = some (some (.ref e0))) (cx_0 : PySem.W.excIn K e0 [.type "ValueError", .type "Exception", .type "BaseException", .type "object"] "ValueError.__new__" = true) (ck_0 : PySem.W.keepIn K (.ref e0) = true)
    (cb_0 : PySem.W.subIn K (.ref e0) (.type "BaseException") = some true) (ct_0 : PySem.W.typeIn K (.ref e0) = some (.type "type")) (cm_0 : PySem.W.subIn K (.ref e0) (.ref eB) = some true) (cv_0 : PySem.W.kitOne K (.ref e0) (.type "ValueError") = some true)
    (ch_0 : PySem.W.findIn K (.ref e0) "__getattribute__" = some (some (.builtin "BaseException.__getattribute__"))) (cg_0 : PySem.W.findIn K (.ref e0) "__getattr__" = some none) (cy_0 : PySem.W.hasDictIn K e0 = true)
    (cd_0 : PySem.W.findIn K (.ref e0) "__class__" = some (some (.builtin "object.__class__"))) (cj_0 : PySem.W.mroIn K e0 (.type "object") = some true)
    (ca_1 : PySem.W.nsIn K mainGlobals "NoBite" = some (some (.ref e1))) (cx_1 : PySem.W.excIn K e1 [.type "ValueError", .type "Exception", .type "BaseException", .type "object"] "ValueError.__new__" = true) (ck_1 : PySem.W.keepIn K (.ref e1) = true)
    (cb_1 : PySem.W.subIn K (.ref e1) (.type "BaseException") = some true) (ct_1 : PySem.W.typeIn K (.ref e1) = some (.type "type")) (cm_1 : PySem.W.subIn K (.ref e1) (.ref eB) = some true) (cv_1 : PySem.W.kitOne K (.ref e1) (.type "ValueError") = some true)
    (ch_1 : PySem.W.findIn K (.ref e1) "__getattribute__" = some (some (.builtin "BaseException.__getattribute__"))) (cg_1 : PySem.W.findIn K (.ref e1) "__getattr__" = some none) (cy_1 : PySem.W.hasDictIn K e1 = true)
    (cd_1 : PySem.W.findIn K (.ref e1) "__class__" = some (some (.builtin "object.__class__"))) (cj_1 : PySem.W.mroIn K e1 (.type "object") = some true)
    (ca_2 : PySem.W.nsIn K mainGlobals "NoTable" = some (some (.ref e2))) (cx_2 : PySem.W.excIn K e2 [.type "ValueError", .type "Exception", .type "BaseException", .type "object"] "ValueError.__new__" = true) (ck_2 : PySem.W.keepIn K (.ref e2) = true)
    (cb_2 : PySem.W.subIn K (.ref e2) (.type "BaseException") = some true) (ct_2 : PySem.W.typeIn K (.ref e2) = some (.type "type")) (cm_2 : PySem.W.subIn K (.ref e2) (.ref eB) = some true) (cv_2 : PySem.W.kitOne K (.ref e2) (.type "ValueError") = some true)
    (ch_2 : PySem.W.findIn K (.ref e2) "__getattribute__" = some (some (.builtin "BaseException.__getattribute__"))) (cg_2 : PySem.W.findIn K (.ref e2) "__getattr__" = some none) (cy_2 : PySem.W.hasDictIn K e2 = true)
    (cd_2 : PySem.W.findIn K (.ref e2) "__class__" = some (some (.builtin "object.__class__"))) (cj_2 : PySem.W.mroIn K e2 (.type "object") = some true)
    (ca_3 : PySem.W.nsIn K mainGlobals "NoNote" = some (some (.ref e3))) (cx_3 : PySem.W.excIn K e3 [.type "ValueError", .type "Exception", .type "BaseException", .type "object"] "ValueError.__new__" = true) (ck_3 : PySem.W.keepIn K (.ref e3) = true)
    (cb_3 : PySem.W.subIn K (.ref e3) (.type "BaseException") = some true) (ct_3 : PySem.W.typeIn K (.ref e3) = some (.type "type")) (cm_3 : PySem.W.subIn K (.ref e3) (.ref eB) = some true) (cv_3 : PySem.W.kitOne K (.ref e3) (.type "ValueError") = some true)
    (ch_3 : PySem.W.findIn K (.ref e3) "__getattribute__" = some (some (.builtin "BaseException.__getattribute__"))) (cg_3 : PySem.W.findIn K (.ref e3) "__getattr__" = some none) (cy_3 : PySem.W.hasDictIn K e3 = true)
    (cd_3 : PySem.W.findIn K (.ref e3) "__class__" = some (some (.builtin "object.__class__"))) (cj_3 : PySem.W.mroIn K e3 (.type "object") = some true)
    (ck_00 : PySem.W.kitOne K (.ref e0) (.ref e0) = some true) (ck_01 : PySem.W.kitOne K (.ref e0) (.ref e1) = some false) (ck_02 : PySem.W.kitOne K (.ref e0) (.ref e2) = some false) (ck_03 : PySem.W.kitOne K (.ref e0) (.ref e3) = some false)
    (ck_10 : PySem.W.kitOne K (.ref e1) (.ref e0) = some false) (ck_11 : PySem.W.kitOne K (.ref e1) (.ref e1) = some true) (ck_12 : PySem.W.kitOne K (.ref e1) (.ref e2) = some false) (ck_13 : PySem.W.kitOne K (.ref e1) (.ref e3) = some false)
    (ck_20 : PySem.W.kitOne K (.ref e2) (.ref e0) = some false) (ck_21 : PySem.W.kitOne K (.ref e2) (.ref e1) = some false) (ck_22 : PySem.W.kitOne K (.ref e2) (.ref e2) = some true) (ck_23 : PySem.W.kitOne K (.ref e2) (.ref e3) = some false)
    (ck_30 : PySem.W.kitOne K (.ref e3) (.ref e0) = some false) (ck_31 : PySem.W.kitOne K (.ref e3) (.ref e1) = some false) (ck_32 : PySem.W.kitOne K (.ref e3) (.ref e2) = some false) (ck_33 : PySem.W.kitOne K (.ref e3) (.ref e3) = some true)
    : ∃ fd : FuncData, (∀ (s : Shared) (v : Value), BindsTo s fd ⟨[v], []⟩ [("script", v)]) ∧ ∀ base : Heap, K.In base → base.Ns mainGlobals mg → FnOk l.prog w K mg base CX0 60 fa fd ["script"] (sp_law K) := by
  have e := hfa.symm.trans (PySem.W.mg_of X G a15)
  cases e
  have m_len := PySem.W.mg_none_of X G z_len
  have m_range := PySem.W.mg_none_of X G z_range
  have m_int := PySem.W.mg_none_of X G z_int
  have m_list := PySem.W.mg_none_of X G z_list
  have m_min := PySem.W.mg_none_of X G z_min
  have m_isinstance := PySem.W.mg_none_of X G z_isinstance
  have m_bool := PySem.W.mg_none_of X G z_bool
  have m_ValueError := PySem.W.mg_none_of X G z_ValueError
  have m_sorted := PySem.W.mg_none_of X G z_sorted
  have m_max := PySem.W.mg_none_of X G z_max
  have g_MOST_ROWS := PySem.W.mg_of X G y_MOST_ROWS
  have g_MOST_PIECES := PySem.W.mg_of X G y_MOST_PIECES
  have g_MOST := PySem.W.mg_of X G y_MOST
  have T_kinds : Kinds K mg (fun j => match j with | 0 => e0 | 1 => e1 | 2 => e2 | _ => e3) eB :=
    { gB := PySem.W.mg_of X G ce_a, o0 := ⟨PySem.W.mg_of X G ca_0, cx_0, ck_0, cb_0, ct_0, PySem.W.exm_ref cB_b cB_d cB_t cm_0⟩, o1 := ⟨PySem.W.mg_of X G ca_1, cx_1, ck_1, cb_1, ct_1, PySem.W.exm_ref cB_b cB_d cB_t cm_1⟩, o2 := ⟨PySem.W.mg_of X G ca_2, cx_2, ck_2, cb_2, ct_2, PySem.W.exm_ref cB_b cB_d cB_t cm_2⟩, o3 := ⟨PySem.W.mg_of X G ca_3, cx_3, ck_3, cb_3, ct_3, PySem.W.exm_ref cB_b cB_d cB_t cm_3⟩,
      k := fun i hi => match i, hi with
        | 0, _ => ⟨⟨ch_0, cg_0, cb_0, cy_0, cd_0, cs_n, cs_t, cj_0⟩, cv_0, fun j hj => match j, hj with | 0, _ => ck_00 | 1, _ => ck_01 | 2, _ => ck_02 | 3, _ => ck_03 | _ + 4, h => absurd h (by omega)⟩
        | 1, _ => ⟨⟨ch_1, cg_1, cb_1, cy_1, cd_1, cs_n, cs_t, cj_1⟩, cv_1, fun j hj => match j, hj with | 0, _ => ck_10 | 1, _ => ck_11 | 2, _ => ck_12 | 3, _ => ck_13 | _ + 4, h => absurd h (by omega)⟩
        | 2, _ => ⟨⟨ch_2, cg_2, cb_2, cy_2, cd_2, cs_n, cs_t, cj_2⟩, cv_2, fun j hj => match j, hj with | 0, _ => ck_20 | 1, _ => ck_21 | 2, _ => ck_22 | 3, _ => ck_23 | _ + 4, h => absurd h (by omega)⟩
        | 3, _ => ⟨⟨ch_3, cg_3, cb_3, cy_3, cd_3, cs_n, cs_t, cj_3⟩, cv_3, fun j hj => match j, hj with | 0, _ => ck_30 | 1, _ => ck_31 | 2, _ => ck_32 | 3, _ => ck_33 | _ + 4, h => absurd h (by omega)⟩
        | _ + 4, h => absurd h (by omega) }
  have F0 := fun_mk (st := s_is_bar) l0 c0 k0
  have b0 := F0.binds (ps := ["bar"]) fun _ _ _ _ _ _ us hl => match us, hl with | [_], _ => rfl
  have F1 := fun_mk (st := s_asked_bar) l1 c1 k1
  have b1 := F1.binds (ps := ["bar"]) fun _ _ _ _ _ _ us hl => match us, hl with | [_], _ => rfl
  have F2 := fun_mk (st := s_bites_of) l2 c2 k2
  have b2 := F2.binds (ps := ["bar"]) fun _ _ _ _ _ _ us hl => match us, hl with | [_], _ => rfl
  have F3 := fun_mk (st := s_behind) l3 c3 k3
  have b3 := F3.binds (ps := ["bar", "row", "column"]) fun _ _ _ _ _ _ us hl => match us, hl with | [_, _, _], _ => rfl
  have F4 := fun_mk (st := s_asked_table) l4 c4 k4
  have b4 := F4.binds (ps := ["table"]) fun _ _ _ _ _ _ us hl => match us, hl with | [_], _ => rfl
  have F5 := fun_mk (st := s_moved) l5 c5 k5
  have b5 := F5.binds (ps := ["table", "number", "row", "column"]) fun _ _ _ _ _ _ us hl => match us, hl with | [_, _, _, _], _ => rfl
  have F6 := fun_mk (st := s_law_cell_at) l6 c6 k6
  have b6 := F6.binds (ps := ["script", "k"]) fun _ _ _ _ _ _ us hl => match us, hl with | [_, _], _ => rfl
  have F7 := fun_mk (st := s_law_whole) l7 c7 k7
  have b7 := F7.binds (ps := ["found"]) fun _ _ _ _ _ _ us hl => match us, hl with | [_], _ => rfl
  have F8 := fun_mk (st := s_law_is_list) l8 c8 k8
  have b8 := F8.binds (ps := ["found", "due"]) fun _ _ _ _ _ _ us hl => match us, hl with | [_, _], _ => rfl
  have F9 := fun_mk (st := s_law_word_of) l9 c9 k9
  have b9 := F9.binds (ps := ["e"]) fun _ _ _ _ _ _ us hl => match us, hl with | [_], _ => rfl
  have F10 := fun_mk (st := s_law_bar_by) l10 c10 k10
  have b10 := F10.binds (ps := ["cell", "most"]) fun _ _ _ _ _ _ us hl => match us, hl with | [_, _], _ => rfl
  have F11 := fun_mk (st := s_law_behind) l11 c11 k11
  have b11 := F11.binds (ps := ["bar", "row", "column"]) fun _ _ _ _ _ _ us hl => match us, hl with | [_, _, _], _ => rfl
  have F12 := fun_mk (st := s_law_table_by) l12 c12 k12
  have b12 := F12.binds (ps := ["script", "at", "most"]) fun _ _ _ _ _ _ us hl => match us, hl with | [_, _, _], _ => rfl
  have F13 := fun_mk (st := s_law_lists) l13 c13 k13
  have b13 := F13.binds (ps := ["found", "due"]) fun _ _ _ _ _ _ us hl => match us, hl with | [_, _], _ => rfl
  have F14 := fun_mk (st := s_law_tried) l14 c14 k14
  have b14 := F14.binds (ps := ["table", "number", "row", "column"]) fun _ _ _ _ _ _ us hl => match us, hl with | [_, _, _, _], _ => rfl
  have F15 := fun_mk (st := s_law) l15 c15 k15
  refine ⟨PySem.W.fnOf "law" "law" (defArgs s_law) (defBody s_law) (defScope s_law) .none kV15 dc15 pm15 an15 cd15 ct15, fun s v => .of_eq rfl, fun base _ _ => ?_⟩
  have C_is_bar := Cal.mk ⟨_, _, ok_is_bar (P := l.prog) (w := w) (base := base) F0 (m_len := m_len) (g_MOST_ROWS := g_MOST_ROWS) (g_MOST_PIECES := g_MOST_PIECES), PySem.W.mg_of X G a0, k0, b0⟩
  have C_asked_bar := Cal.mk ⟨_, _, ok_asked_bar (P := l.prog) (w := w) (base := base) F1 (C_is_bar := C_is_bar), PySem.W.mg_of X G a1, k1, b1⟩
  have C_bites_of := Cal.mk ⟨_, _, ok_bites_of (P := l.prog) (w := w) (base := base) F2 (m_len := m_len) (m_range := m_range) (m_int := m_int), PySem.W.mg_of X G a2, k2, b2⟩
  have C_behind := Cal.mk ⟨_, _, ok_behind (P := l.prog) (w := w) (base := base) F3 (m_list := m_list) (m_min := m_min), PySem.W.mg_of X G a3, k3, b3⟩
  have C_asked_table := Cal.mk ⟨_, _, ok_asked_table (P := l.prog) (w := w) (base := base) F4 (m_len := m_len) (g_MOST := g_MOST) (C_asked_bar := C_asked_bar), PySem.W.mg_of X G a4, k4, b4⟩
  have C_moved := Cal.mk ⟨_, _, ok_moved (P := l.prog) (w := w) (base := base) F5 (m_len := m_len) (m_list := m_list) (C_asked_table := C_asked_table) (C_bites_of := C_bites_of) (C_behind := C_behind) (T_kinds := T_kinds), PySem.W.mg_of X G a5, k5, b5⟩
  have C_law_cell_at := Cal.mk ⟨_, _, ok_law_cell_at (P := l.prog) (w := w) (base := base) F6 (m_len := m_len), PySem.W.mg_of X G a6, k6, b6⟩
  have C_law_whole := Cal.mk ⟨_, _, ok_law_whole (P := l.prog) (w := w) (base := base) F7 (m_isinstance := m_isinstance) (m_int := m_int) (m_bool := m_bool), PySem.W.mg_of X G a7, k7, b7⟩
  have C_law_is_list := Cal.mk ⟨_, _, ok_law_is_list (P := l.prog) (w := w) (base := base) F8 (m_len := m_len) (m_range := m_range) (m_isinstance := m_isinstance) (m_list := m_list) (C_law_whole := C_law_whole), PySem.W.mg_of X G a8, k8, b8⟩
  have C_law_word_of := CalE.mk ⟨_, _, ok_law_word_of (P := l.prog) (w := w) (base := base) F9 (m_isinstance := m_isinstance) (m_ValueError := m_ValueError) (T_kinds := T_kinds), PySem.W.mg_of X G a9, k9, b9⟩
  have C_law_bar_by := Cal.mk ⟨_, _, ok_law_bar_by (P := l.prog) (w := w) (base := base) F10 (m_range := m_range) (m_sorted := m_sorted), PySem.W.mg_of X G a10, k10, b10⟩
  have C_law_behind := Cal.mk ⟨_, _, ok_law_behind (P := l.prog) (w := w) (base := base) F11 (m_len := m_len) (m_range := m_range), PySem.W.mg_of X G a11, k11, b11⟩
  have C_law_table_by := Cal.mk ⟨_, _, ok_law_table_by (P := l.prog) (w := w) (base := base) F12 (m_range := m_range) (C_law_cell_at := C_law_cell_at) (C_law_bar_by := C_law_bar_by), PySem.W.mg_of X G a12, k12, b12⟩
  have C_law_lists := Cal.mk ⟨_, _, ok_law_lists (P := l.prog) (w := w) (base := base) F13 (m_len := m_len) (m_range := m_range) (m_isinstance := m_isinstance) (m_list := m_list) (C_law_is_list := C_law_is_list), PySem.W.mg_of X G a13, k13, b13⟩
  have C_law_tried := Cal.mk ⟨_, _, ok_law_tried (P := l.prog) (w := w) (base := base) F14 (T_kinds := T_kinds) (C_moved := C_moved) (C_law_word_of := C_law_word_of), PySem.W.mg_of X G a14, k14, b14⟩
  exact (ok_law (P := l.prog) (w := w) (base := base) F15 (m_len := m_len) (m_list := m_list) (m_max := m_max) (C_law_table_by := C_law_table_by) (C_law_cell_at := C_law_cell_at) (C_law_tried := C_law_tried) (C_law_behind := C_law_behind) (C_law_lists := C_law_lists)).mono (by decide)
end Bb
open PySem PySem.W PyProof.Rows
set_option maxRecDepth 100000 in
set_option maxHeartbeats 0 in
theorem PySem.Challenge.cw_bitebar_k11_moved_holds : PySem.Challenge.rw_bitebar_k11_moved.Holds := by
  w_on; o_law; k_head; (case hw => w_witness2)
  k_fill
  refine L2.walk_of (l := PySem.Challenge.rw_bitebar_k11_moved) (n := 63) (k := 60) (x := "script") (CX := fun _ => L2.CX0) (sp := fun w => Bb.sp_law _) rfl (by decide) rfl ⟨rfl, by decide, by decide⟩ (fun w h Y => PySem.W.kIn_of Y) ?F (fun _ H a ns hl _ hS => ⟨a, ns, rfl, hS, hl, fun _ => rfl⟩) (fun _ _ _ _ _ h => h)
  case F =>
    intro w mg fa h KX G hmg
    refine' Bb.all_mk KX G hmg ?a0 ?l0 ?c0 ?k0 ?a1 ?l1 ?c1 ?k1 ?a2 ?l2 ?c2 ?k2 ?a3 ?l3 ?c3 ?k3 ?a4 ?l4 ?c4 ?k4 ?a5 ?l5 ?c5 ?k5 ?a6 ?l6 ?c6 ?k6 ?a7 ?l7 ?c7 ?k7 ?a8 ?l8 ?c8 ?k8 ?a9 ?l9 ?c9 ?k9 ?a10 ?l10 ?c10 ?k10 ?a11 ?l11 ?c11 ?k11 ?a12 ?l12 ?c12 ?k12 ?a13 ?l13 ?c13 ?k13 ?a14 ?l14 ?c14 ?k14 ?a15 ?l15 ?c15 ?k15 ?z_len ?z_range ?z_int ?z_list ?z_min ?z_isinstance ?z_bool ?z_ValueError ?z_sorted ?z_max ?y_MOST_ROWS ?y_MOST_PIECES ?y_MOST ?ce_a ?cB_b ?cB_d ?cB_t ?cs_n ?cs_t ?ca_0 ?cx_0 ?ck_0 ?cb_0 ?ct_0 ?cm_0 ?cv_0 ?ch_0 ?cg_0 ?cy_0 ?cd_0 ?cj_0 ?ca_1 ?cx_1 ?ck_1 ?cb_1 ?ct_1 ?cm_1 ?cv_1 ?ch_1 ?cg_1 ?cy_1 ?cd_1 ?cj_1 ?ca_2 ?cx_2 ?ck_2 ?cb_2 ?ct_2 ?cm_2 ?cv_2 ?ch_2 ?cg_2 ?cy_2 ?cd_2 ?cj_2 ?ca_3 ?cx_3 ?ck_3 ?cb_3 ?ct_3 ?cm_3 ?cv_3 ?ch_3 ?cg_3 ?cy_3 ?cd_3 ?cj_3 ?ck_00 ?ck_01 ?ck_02 ?ck_03 ?ck_10 ?ck_11 ?ck_12 ?ck_13 ?ck_20 ?ck_21 ?ck_22 ?ck_23 ?ck_30 ?ck_31 ?ck_32 ?ck_33
    (case a0 => k_is); (case l0 => k_is); (case c0 => k_is); (case k0 => k_is); (case a1 => k_is); (case l1 => k_is); (case c1 => k_is); (case k1 => k_is); (case a2 => k_is); (case l2 => k_is); (case c2 => k_is); (case k2 => k_is); (case a3 => k_is); (case l3 => k_is); (case c3 => k_is); (case k3 => k_is); (case a4 => k_is); (case l4 => k_is); (case c4 => k_is); (case k4 => k_is); (case a5 => k_is); (case l5 => k_is); (case c5 => k_is); (case k5 => k_is); (case a6 => k_is); (case l6 => k_is); (case c6 => k_is); (case k6 => k_is); (case a7 => k_is); (case l7 => k_is); (case c7 => k_is); (case k7 => k_is); (case a8 => k_is); (case l8 => k_is); (case c8 => k_is); (case k8 => k_is); (case a9 => k_is); (case l9 => k_is); (case c9 => k_is); (case k9 => k_is); (case a10 => k_is); (case l10 => k_is); (case c10 => k_is); (case k10 => k_is); (case a11 => k_is); (case l11 => k_is); (case c11 => k_is); (case k11 => k_is); (case a12 => k_is); (case l12 => k_is); (case c12 => k_is); (case k12 => k_is); (case a13 => k_is); (case l13 => k_is); (case c13 => k_is); (case k13 => k_is); (case a14 => k_is); (case l14 => k_is); (case c14 => k_is); (case k14 => k_is); (case a15 => k_is); (case l15 => k_is); (case c15 => k_is); (case k15 => k_is); (case z_len => k_is); (case z_range => k_is); (case z_int => k_is); (case z_list => k_is); (case z_min => k_is); (case z_isinstance => k_is); (case z_bool => k_is); (case z_ValueError => k_is); (case z_sorted => k_is); (case z_max => k_is); (case y_MOST_ROWS => k_is); (case y_MOST_PIECES => k_is); (case y_MOST => k_is); (case ce_a => k_is); (case cB_b => k_is); (case cB_d => k_is); (case cB_t => k_is); (case cs_n => k_is); (case cs_t => k_is); (case ca_0 => k_is); (case cx_0 => k_exc); (case ck_0 => k_is); (case cb_0 => k_is); (case ct_0 => k_is); (case cm_0 => k_is); (case cv_0 => kit_is); (case ch_0 => k_is); (case cg_0 => k_is); (case cy_0 => k_is); (case cd_0 => k_is); (case cj_0 => k_is); (case ca_1 => k_is); (case cx_1 => k_exc); (case ck_1 => k_is); (case cb_1 => k_is); (case ct_1 => k_is); (case cm_1 => k_is); (case cv_1 => kit_is); (case ch_1 => k_is); (case cg_1 => k_is); (case cy_1 => k_is); (case cd_1 => k_is); (case cj_1 => k_is); (case ca_2 => k_is); (case cx_2 => k_exc); (case ck_2 => k_is); (case cb_2 => k_is); (case ct_2 => k_is); (case cm_2 => k_is); (case cv_2 => kit_is); (case ch_2 => k_is); (case cg_2 => k_is); (case cy_2 => k_is); (case cd_2 => k_is); (case cj_2 => k_is); (case ca_3 => k_is); (case cx_3 => k_exc); (case ck_3 => k_is); (case cb_3 => k_is); (case ct_3 => k_is); (case cm_3 => k_is); (case cv_3 => kit_is); (case ch_3 => k_is); (case cg_3 => k_is); (case cy_3 => k_is); (case cd_3 => k_is); (case cj_3 => k_is); (case ck_00 => kit_is); (case ck_01 => kit_is); (case ck_02 => kit_is); (case ck_03 => kit_is); (case ck_10 => kit_is); (case ck_11 => kit_is); (case ck_12 => kit_is); (case ck_13 => kit_is); (case ck_20 => kit_is); (case ck_21 => kit_is); (case ck_22 => kit_is); (case ck_23 => kit_is); (case ck_30 => kit_is); (case ck_31 => kit_is); (case ck_32 => kit_is); (case ck_33 => kit_is)
#print axioms PySem.Challenge.cw_bitebar_k11_moved_holds
