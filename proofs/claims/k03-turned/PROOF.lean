import PyProof.Rows.All
import Wide.All
import OpenK.AllK
import Wide.FinOn
import HandS.ForMost
import HandS.SortKw
import HandS.Deep
import HandS.IsInst
import PySem.Challenge.RW_bitebar_k03_turned
set_option Elab.async false
set_option linter.all false
set_option maxRecDepth 100000
set_option maxHeartbeats 8000000
namespace Bb
open PySem PySem.Spec PyProof.Rows L2
/-! ### bars, bites -/
/-- a bar of at most m rows of at most m pieces -/
structure IsBar (m : Int) (b : List Int) : Prop where
  ne : 1 ≤ b.length
  le : (b.length : Int) ≤ m
  pw : b.Pairwise (· ≥ ·)
  rg : ∀ x ∈ b, 1 ≤ x ∧ x ≤ m
theorem IsBar.mono {m n : Int} {b : List Int} (h : IsBar m b) (hn : m ≤ n) : IsBar n b :=
  ⟨h.ne, Int.le_trans h.le hn, h.pw, fun x hx => ⟨(h.rg x hx).1, Int.le_trans (h.rg x hx).2 hn⟩⟩
/-- each row from 1 on, none greater than the one ahead -/
def falls (m : Int) : List Int → Bool
  | [] => true
  | x :: xs => decide (1 ≤ x ∧ x ≤ m) && falls x xs
def isBarB (b : List Int) : Bool := decide (1 ≤ b.length ∧ b.length ≤ 5) && falls 5 b
theorem falls_iff {m : Int} {b : List Int} : falls m b = true ↔ b.Pairwise (· ≥ ·) ∧ ∀ x ∈ b, 1 ≤ x ∧ x ≤ m := by
  induction b generalizing m with
  | nil => simp [falls]
  | cons x xs ih =>
    rw [falls, Bool.and_eq_true, decide_eq_true_eq, ih, List.pairwise_cons]
    constructor
    · rintro ⟨⟨h1, h2⟩, h3, h4⟩
      refine ⟨⟨fun y hy => (h4 y hy).2, h3⟩, fun y hy => ?_⟩
      rcases List.mem_cons.mp hy with rfl | hy
      · exact ⟨h1, h2⟩
      · exact ⟨(h4 y hy).1, Int.le_trans (h4 y hy).2 h2⟩
    · rintro ⟨⟨h1, h2⟩, h3⟩
      exact ⟨h3 x (List.mem_cons_self), h2, fun y hy => ⟨(h3 y (List.mem_cons_of_mem _ hy)).1, h1 y hy⟩⟩
theorem isBarB_iff {b : List Int} : isBarB b = true ↔ IsBar 5 b := by
  unfold isBarB
  rw [Bool.and_eq_true, decide_eq_true_eq, falls_iff]
  constructor
  · rintro ⟨⟨h1, h2⟩, h3, h4⟩
    exact ⟨h1, by omega, h3, h4⟩
  · rintro ⟨h1, h2, h3, h4⟩
    exact ⟨⟨h1, by omega⟩, h3, h4⟩
/-- the bites of row r, columns below n -/
def rowL (r : Nat) : Nat → List (Nat × Nat)
  | 0 => []
  | n + 1 => rowL r n ++ if 0 < r + n then [(r, n)] else []
def bitesFrom (r : Nat) : List Int → List (Nat × Nat)
  | [] => []
  | x :: xs => rowL r x.toNat ++ bitesFrom (r + 1) xs
def bitesL (b : List Int) : List (Nat × Nat) := bitesFrom 0 b
theorem bitesFrom_append (r : Nat) : ∀ (xs ys : List Int), bitesFrom r (xs ++ ys) = bitesFrom r xs ++ bitesFrom (r + xs.length) ys := by
  intro xs
  induction xs generalizing r with
  | nil => intro ys; simp [bitesFrom]
  | cons x xs ih =>
    intro ys
    rw [List.cons_append, bitesFrom, bitesFrom, ih, List.append_assoc, List.length_cons, Nat.add_assoc, Nat.add_comm 1 xs.length]
theorem take_more {α : Type} {l : List α} {i : Nat} {x : α} (h : l[i]? = some x) : l.take (i + 1) = l.take i ++ [x] := by
  rw [List.take_add_one, h]; rfl
theorem bitesL_more {b : List Int} {i : Nat} {x : Int} (h : b[i]? = some x) : bitesL (b.take (i + 1)) = bitesL (b.take i) ++ rowL i x.toNat := by
  have hi : i < b.length := (List.getElem?_eq_some_iff.mp h).1
  unfold bitesL
  rw [take_more h, bitesFrom_append, List.length_take, Nat.min_eq_left (Nat.le_of_lt hi), Nat.zero_add]
  simp [bitesFrom]
theorem rowL_len (r n : Nat) : (rowL r n).length ≤ n := by
  induction n with
  | zero => simp [rowL]
  | succ n ih => rw [rowL, List.length_append]; split <;> simp <;> omega
theorem mem_rowL {r n : Nat} {p : Nat × Nat} : p ∈ rowL r n ↔ p.1 = r ∧ p.2 < n ∧ 0 < r + p.2 := by
  induction n with
  | zero => simp [rowL]
  | succ n ih =>
    rw [rowL, List.mem_append, ih]
    obtain ⟨a, c⟩ := p
    constructor
    · rintro (⟨h1, h2, h3⟩ | h)
      · exact ⟨h1, by omega, h3⟩
      · split at h
        · simp at h; obtain ⟨h1, h2⟩ := h; subst h1 h2; exact ⟨rfl, by simp, by assumption⟩
        · cases h
    · rintro ⟨h1, h2, h3⟩
      simp only at h1 h2 h3
      subst h1
      by_cases e : c = n
      · subst e; right; rw [if_pos h3]; simp
      · left; exact ⟨rfl, by simp only; omega, h3⟩
theorem mem_bitesFrom {r : Nat} {b : List Int} {p : Nat × Nat} : p ∈ bitesFrom r b ↔ ∃ i x, b[i]? = some x ∧ p.1 = r + i ∧ (p.2 : Int) < x ∧ 0 < p.1 + p.2 := by
  induction b generalizing r with
  | nil => simp [bitesFrom]
  | cons y ys ih =>
    rw [bitesFrom, List.mem_append, mem_rowL, ih]
    constructor
    · rintro (⟨h1, h2, h3⟩ | ⟨i, x, h1, h2, h3, h4⟩)
      · exact ⟨0, y, rfl, by omega, by omega, by omega⟩
      · exact ⟨i + 1, x, by simpa using h1, by omega, h3, h4⟩
    · rintro ⟨i, x, h1, h2, h3, h4⟩
      cases i with
      | zero =>
        left
        have e : y = x := by simpa using h1
        subst e
        exact ⟨by omega, by omega, by omega⟩
      | succ i =>
        right
        exact ⟨i, x, by simpa using h1, by omega, h3, h4⟩
theorem mem_bitesL {b : List Int} {p : Nat × Nat} : p ∈ bitesL b ↔ ∃ x, b[p.1]? = some x ∧ (p.2 : Int) < x ∧ 0 < p.1 + p.2 := by
  unfold bitesL
  rw [mem_bitesFrom]
  constructor
  · rintro ⟨i, x, h1, h2, h3, h4⟩
    have e : p.1 = i := by omega
    subst e
    exact ⟨x, h1, h3, h4⟩
  · rintro ⟨x, h1, h2, h3⟩
    exact ⟨p.1, x, h1, by omega, h2, h3⟩
theorem bitesFrom_len (r : Nat) : ∀ (b : List Int), (∀ x ∈ b, x ≤ 5) → (bitesFrom r b).length ≤ 5 * b.length := by
  intro b
  induction b generalizing r with
  | nil => intro _; simp [bitesFrom]
  | cons x xs ih =>
    intro h
    have h1 := rowL_len r x.toNat
    have h2 := ih (r + 1) fun y hy => h y (List.mem_cons_of_mem _ hy)
    have h3 := h x List.mem_cons_self
    rw [bitesFrom, List.length_append, List.length_cons]
    omega
theorem bitesL_len {b : List Int} (h : IsBar 5 b) : (bitesL b).length ≤ 25 := by
  have := bitesFrom_len 0 b fun x hx => (h.rg x hx).2
  have := h.le
  unfold bitesL
  omega
theorem bitesL_take_len {b : List Int} (h : IsBar 5 b) (i : Nat) : (bitesL (b.take i)).length ≤ 25 := by
  have := bitesFrom_len 0 (b.take i) fun x hx => (h.rg x (List.mem_of_mem_take hx)).2
  have := h.le
  have : (b.take i).length ≤ b.length := by rw [List.length_take]; omega
  unfold bitesL
  omega
/-- the bar behind a bite -/
def behindL (b : List Int) (r c : Nat) : List Int := b.take r ++ if 0 < c then (b.drop r).map fun x => min x (c : Int) else []
/-! ### heaps -/
theorem sNew {H : Hp} {p : Addr} {o : HO} (h : H p = none) : Same H (upd H p o) := fun b x e => by
  rw [upd_ne (ne_of_none e h)]
  exact e
theorem sThen {H0 H : Hp} {p : Addr} {o : HO} (s : Same H0 H) (h : H p = none) : Same H0 (upd H p o) := s.trans (sNew h)
/-- an object that was not there at the start is written -/
theorem sPut {H0 H : Hp} {p : Addr} {o : HO} (s : Same H0 H) (h : H0 p = none) : Same H0 (upd H p o) := fun b x e => by
  rw [upd_ne (ne_of_none e h)]
  exact s b x e
/-- the tuples stay -/
def KT (H H' : Hp) : Prop := ∀ t xs, H t = some (.tup xs) → H' t = some (.tup xs)
theorem KT.refl (H : Hp) : KT H H := fun _ _ h => h
theorem KT.trans {H H1 H2 : Hp} (a : KT H H1) (b : KT H1 H2) : KT H H2 := fun t xs h => b t xs (a t xs h)
theorem KT.same {H H' : Hp} (s : Same H H') : KT H H' := fun t xs h => s _ _ h
theorem KT.new {H : Hp} {p : Addr} {o : HO} (h : H p = none) : KT H (upd H p o) := KT.same (sNew h)
theorem KT.lst {H : Hp} {p : Addr} {o : HO} {xs : List V} (h : H p = some (.lst xs)) : KT H (upd H p o) := fun t ys e => by
  rw [upd_ne (ne_of e h (by intro q; cases q))]
  exact e
theorem KT.dK {H : Hp} {p : Addr} {o : HO} {xs : List (Key × V)} (h : H p = some (.dK xs)) : KT H (upd H p o) := fun t ys e => by
  rw [upd_ne (ne_of e h (by intro q; cases q))]
  exact e
theorem KT.dT {H : Hp} {p : Addr} {o : HO} {xs : List (List Key × V)} (h : H p = some (.dT xs)) : KT H (upd H p o) := fun t ys e => by
  rw [upd_ne (ne_of e h (by intro q; cases q))]
  exact e
/-- a list of tuples of ints -/
abbrev TL (H : Hp) (xs : List V) (ds : List (List Int)) : Prop := Paired (fun (x : V) (d : List Int) => ∃ t, x = .ref t ∧ H t = some (.tup (d.map V.int))) xs ds
theorem TL.keep {H H' : Hp} (k : KT H H') {xs : List V} {ds : List (List Int)} (h : TL H xs ds) : TL H' xs ds :=
  Paired.mapP h fun _ _ ⟨t, e, z⟩ => ⟨t, e, k _ _ z⟩
theorem TL.nil {H : Hp} : TL H [] [] := Paired.nil
theorem TL.length {H : Hp} {xs : List V} {ds : List (List Int)} (h : TL H xs ds) : xs.length = ds.length := Paired.length h
theorem TL.append {H : Hp} {xs ys : List V} {ds es : List (List Int)} (h : TL H xs ds) (h' : TL H ys es) : TL H (xs ++ ys) (ds ++ es) := by
  induction h with
  | nil => exact h'
  | cons r _ ih => exact Paired.cons r ih
theorem TL.snoc {H : Hp} {xs : List V} {ds : List (List Int)} {t : Addr} {d : List Int} (h : TL H xs ds) (e : H t = some (.tup (d.map V.int))) : TL H (xs ++ [.ref t]) (ds ++ [d]) :=
  h.append (Paired.cons ⟨t, rfl, e⟩ Paired.nil)
theorem TL.get {H : Hp} : ∀ {xs : List V} {ds : List (List Int)} {i : Nat} {d : List Int}, TL H xs ds → ds[i]? = some d → ∃ t, xs[i]? = some (.ref t) ∧ H t = some (.tup (d.map V.int))
  | _, _, i, d, Paired.nil, e => by simp at e
  | _, _, 0, d, Paired.cons ⟨t, h1, h2⟩ _, e => by
    obtain rfl := Option.some.inj e
    exact ⟨t, by rw [h1]; rfl, h2⟩
  | _, _, i + 1, d, Paired.cons _ r, e => by
    obtain ⟨t, h1, h2⟩ := TL.get (i := i) r (by simpa using e)
    exact ⟨t, by simpa using h1, h2⟩
/-- a bite's place -/
def pr (p : Nat × Nat) : List Int := [(p.1 : Int), (p.2 : Int)]
theorem small {n : Nat} (h : n ≤ 100000) : n ≤ sizeLine := Nat.le_trans h (by rw [sizeLine_eq]; decide)
theorem small' {n : Nat} (h : n ≤ 100000) : n < sizeLine := Nat.lt_of_le_of_lt h (by rw [sizeLine_eq]; decide)
theorem map_get {ns : List Int} {i : Nat} {y : V} (h : (ns.map V.int)[i]? = some y) : ∃ z, ns[i]? = some z ∧ y = V.int z := by
  rw [List.getElem?_map] at h
  cases e : ns[i]? with
  | none => rw [e] at h; cases h
  | some z => rw [e] at h; exact ⟨z, rfl, (Option.some.inj h).symm⟩
theorem get_map {ns : List Int} {i : Nat} {z : Int} (h : ns[i]? = some z) : (ns.map V.int)[i]? = some (V.int z) := by
  rw [List.getElem?_map, h]; rfl
theorem at_map {ns : List Int} {i : Nat} {z : Int} (h : ns[i]? = some z) : atI (ns.map V.int) (i : Int) = some (V.int z) := atI_nat (get_map h)
theorem in62 {n : Nat} (h : n ≤ 100000) : -(2 ^ 62) ≤ (n : Int) ∧ (n : Int) < 2 ^ 62 := by
  constructor <;> omega
/-! ### calls -/
structure Cal (P : Program) (w : World) (K : PySem.W.Frag) (mg : Str → Option Value) (base : Heap) (CX : CXT) (k : Nat) (x : Str) (ps : List Str) (sp : Sp) : Prop where
  ex : ∃ (f : Addr) (fd : FuncData), FnOk P w K mg base CX k f fd ps sp ∧ mg x = some (.ref f) ∧ PySem.W.keepIn K (.ref f) = true ∧ Binds K fd ps []
theorem pe_c {X : Cx} {CX : CXT} {k j : Nat} {x : Str} {ps : List Str} {sp : Sp} {E : XK} {e : Expr} {es : List Expr} {t : TA} {p pos : Pos} (C : Cal X.prog X.w X.K X.mg X.base CX k x ps sp) (hr : Room j X.A) (hj : k ≤ j) (hx : Passes CX X E) (ha : PA X (e :: es) t)
    (hg : Gl X x := by rfl) (hdb : (x == ("__debug__" : Str)) = false := by decide) (he : starEach (e :: es) X.env = (false, eval e X.env) :: starEach es X.env := by rfl) (hpl : (backTo pos (starEach es X.env)).any (·.1) = false := by rfl) :
    PE X (.Call (.Name x p) (e :: es) [] pos) (tCall sp [] E t) := by
  obtain ⟨f, fd, F, gm, kp, bd⟩ := C.ex
  exact pe_call F (hr.mono hj) hg gm kp bd .nil hx ha hdb he hpl
/-- a comprehension without a test -/
theorem yesT {σ : L2.St} {H : Hp} {A B : Hp → Prop} (h : A H) : tYes σ H (fun b H' => if b = true then A H' else B H') := by
  show if true = true then A H else B H
  rw [if_pos rfl]
  exact h
/-! ### data: lists and tuples of ints, lists of these -/
abbrev dI (ns : List Int) : List PyData := ns.map PyData.int
abbrev dT (ds : List (List Int)) : List PyData := ds.map fun d => PyData.tuple (dI d)
abbrev dL (ds : List (List Int)) : List PyData := ds.map fun d => PyData.list (dI d)
theorem dp_ints {K : PySem.W.Frag} {H : Hp} : ∀ ns : List Int, DpAll K H (ns.map V.int) (dI ns)
  | [] => .nil
  | x :: xs => .cons (.int x) (dp_ints xs)
theorem dp_tups {K : PySem.W.Frag} {H : Hp} : ∀ {xs : List V} {ds : List (List Int)}, TL H xs ds → DpAll K H xs (dT ds)
  | _, _, Paired.nil => .nil
  | _, _, Paired.cons ⟨t, e, h⟩ r => by
    subst e
    exact .cons (.tup (SqT.of h) (dp_ints _)) (dp_tups r)
theorem lay_ints : ∀ ns : List Int, PyData.canLayAll0 (dI ns) = true ∧ PyData.depthAll (dI ns) = 0
  | [] => ⟨by simp [PyData.canLayAll0], by simp [PyData.depthAll]⟩
  | x :: xs => by
    obtain ⟨h1, h2⟩ := lay_ints xs
    refine ⟨?_, ?_⟩
    · rw [dI, List.map_cons, PyData.canLayAll0, h1, PyData.canLay0]; rfl
    · rw [dI, List.map_cons, PyData.depthAll, h2, PyData.depth]; rfl
theorem shaped_list (ns : List Int) : SeqAt.shaped (.list (dI ns)) = true := by
  obtain ⟨h1, h2⟩ := lay_ints ns
  unfold SeqAt.shaped
  rw [PyData.canLay0, h1, PyData.depth, h2]
  rfl
theorem shaped_tup (ns : List Int) : SeqAt.shaped (.tuple (dI ns)) = true := by
  obtain ⟨h1, h2⟩ := lay_ints ns
  unfold SeqAt.shaped
  rw [PyData.canLay0, h1, PyData.depth, h2]
  rfl
theorem lay_tups : ∀ ds : List (List Int), PyData.canLayAll0 (dT ds) = true ∧ PyData.depthAll (dT ds) ≤ 1
  | [] => ⟨by simp [PyData.canLayAll0], by simp [PyData.depthAll]⟩
  | x :: xs => by
    obtain ⟨h1, h2⟩ := lay_tups xs
    obtain ⟨h3, h4⟩ := lay_ints x
    refine ⟨?_, ?_⟩
    · rw [dT, List.map_cons, PyData.canLayAll0, h1, PyData.canLay0, h3]; rfl
    · rw [dT, List.map_cons, PyData.depthAll, PyData.depth, h4]
      exact Nat.max_le.mpr ⟨Nat.le_refl _, h2⟩
theorem lay_lsts : ∀ ds : List (List Int), PyData.canLayAll0 (dL ds) = true ∧ PyData.depthAll (dL ds) ≤ 1
  | [] => ⟨by simp [PyData.canLayAll0], by simp [PyData.depthAll]⟩
  | x :: xs => by
    obtain ⟨h1, h2⟩ := lay_lsts xs
    obtain ⟨h3, h4⟩ := lay_ints x
    refine ⟨?_, ?_⟩
    · rw [dL, List.map_cons, PyData.canLayAll0, h1, PyData.canLay0, h3]; rfl
    · rw [dL, List.map_cons, PyData.depthAll, PyData.depth, h4]
      exact Nat.max_le.mpr ⟨Nat.le_refl _, h2⟩
theorem shaped_tups (ds : List (List Int)) : SeqAt.shaped (.list (dT ds)) = true := by
  obtain ⟨h1, h2⟩ := lay_tups ds
  unfold SeqAt.shaped
  rw [PyData.canLay0, h1, PyData.depth, Bool.true_and]
  exact decide_eq_true (by omega)
theorem shaped_lsts (ds : List (List Int)) : SeqAt.shaped (.list (dL ds)) = true := by
  obtain ⟨h1, h2⟩ := lay_lsts ds
  unfold SeqAt.shaped
  rw [PyData.canLay0, h1, PyData.depth, Bool.true_and]
  exact decide_eq_true (by omega)
theorem eqv_ints : ∀ ns ms : List Int, PyData.eqvAll (dI ns) (dI ms) = decide (ns = ms)
  | [], [] => by simp [dI, PyData.eqvAll]
  | [], _ :: _ => by simp [dI, PyData.eqvAll]
  | _ :: _, [] => by simp [dI, PyData.eqvAll]
  | x :: xs, y :: ys => by
    show PyData.eqvAll (PyData.int x :: dI xs) (PyData.int y :: dI ys) = _
    rw [PyData.eqvAll, eqv_ints xs ys, PyData.eqv, Bool.beq_eq_decide_eq]
    by_cases e : x = y
    · subst e; by_cases e2 : xs = ys <;> simp [e2]
    · simp [e]
theorem eqv_list (ns ms : List Int) : PyData.eqv (.list (dI ns)) (.list (dI ms)) = decide (ns = ms) := by rw [PyData.eqv, eqv_ints]
theorem eqv_tup (ns ms : List Int) : PyData.eqv (.tuple (dI ns)) (.tuple (dI ms)) = decide (ns = ms) := by rw [PyData.eqv, eqv_ints]
theorem eqv_lists : ∀ ns ms : List (List Int), PyData.eqvAll (dL ns) (dL ms) = decide (ns = ms)
  | [], [] => by simp [dL, PyData.eqvAll]
  | [], _ :: _ => by simp [dL, PyData.eqvAll]
  | _ :: _, [] => by simp [dL, PyData.eqvAll]
  | x :: xs, y :: ys => by
    show PyData.eqvAll (PyData.list (dI x) :: dL xs) (PyData.list (dI y) :: dL ys) = _
    rw [PyData.eqvAll, eqv_lists xs ys, eqv_list]
    by_cases e : x = y
    · subst e; by_cases e2 : xs = ys <;> simp [e2]
    · simp [e]
theorem dp_list {K : PySem.W.Frag} {H : Hp} {a : Addr} {ns : List Int} (h : SqL K H a (ns.map V.int)) : Dp K H (.ref a) (.list (dI ns)) := .lst h (dp_ints ns)
theorem dp_tup {K : PySem.W.Frag} {H : Hp} {a : Addr} {ns : List Int} (h : H a = some (.tup (ns.map V.int))) : Dp K H (.ref a) (.tuple (dI ns)) := .tup (SqT.of h) (dp_ints ns)
theorem dp_tl {K : PySem.W.Frag} {H : Hp} {a : Addr} {xs : List V} {ds : List (List Int)} (h : SqL K H a xs) (t : TL H xs ds) : Dp K H (.ref a) (.list (dT ds)) := .lst h (dp_tups t)
/-! ### the rules that speak of the written part, with its name -/
section
variable {X : Cx} {K : PySem.W.Frag}
theorem lenK (hK : X.K = K := by rfl) : CallR X (.builtin "len") (fun xs H Q => ∃ p ys, xs = [.ref p] ∧ (SqL K H p ys ∨ SqT K H p ys) ∧ Q (.int ys.length) H) := by subst hK; exact call_len_seq
theorem ixK (hK : X.K = K := by rfl) : IxR X (rIxL K) := by subst hK; exact ix_list
theorem ixTK (hK : X.K = K := by rfl) : IxR X (rIxT K) := by subst hK; exact ix_tup
theorem slK (hK : X.K = K := by rfl) : SlR X (rSlL K) := by subst hK; exact sl_list
theorem isiK (hK : X.K = K := by rfl) : CallR X (.builtin "isinstance") (rIsi K) := by subst hK; exact call_isi
theorem eqDK (hu : X.A.units + 64 < cLine) (hK : X.K = K := by rfl) : OpR X (compareOp .Eq) (rEqD K) := by subst hK; exact op_eqD hu
theorem neDK (hu : X.A.units + 64 < cLine) (hK : X.K = K := by rfl) : OpR X (compareOp .NotEq) (rNeD K) := by subst hK; exact op_neD hu
theorem inDK (hu : X.A.units + 65 < cLine) (hK : X.K = K := by rfl) : OpR X (compareOp .In) (rInD K) := by subst hK; exact op_inD hu
theorem notInDK (hu : X.A.units + 65 < cLine) (hK : X.K = K := by rfl) : OpR X (compareOp .NotIn) (rNotInD K) := by subst hK; exact op_notInD hu
theorem inSK (hK : X.K = K := by rfl) : OpR X (compareOp .In) (rIn K false) := by subst hK; exact op_in_seq
theorem notInSK (hK : X.K = K := by rfl) : OpR X (compareOp .NotIn) (rIn K true) := by subst hK; exact op_notIn_seq
theorem listK (hK : X.K = K := by rfl) : CallR X (.type "list") (fun xs H Q => ∃ p ys, xs = [.ref p] ∧ (SqL K H p ys ∨ SqT K H p ys) ∧ ∀ l, H l = none → Q (.ref l) (upd H l (.lst ys))) := by subst hK; exact call_list_of
theorem tupleK (hK : X.K = K := by rfl) : CallR X (.type "tuple") (fun xs H Q => ∃ p ys, xs = [.ref p] ∧ ((SqL K H p ys ∧ ∀ l, H l = none → Q (.ref l) (upd H l (.tup ys))) ∨ (SqT K H p ys ∧ Q (.ref p) H))) := by subst hK; exact call_tuple_of
theorem maxK (hc : X.calm = true) (hK : X.K = K := by rfl) : CallR X (.builtin "max") (rMax K) := by subst hK; exact cr_max hc
theorem indexK (hK : X.K = K := by rfl) : MtR X "list.index" (rIndex K) := by subst hK; exact mt_index
theorem sortedRevK (hK : X.K = K := by rfl) : CallRK X (.builtin "sorted") [Str.ofString "reverse"] (rSortedKw K true [.bl true]) := by subst hK; exact cr_sortedRev (b := true)
theorem pi_listK {tg l : Expr} {tl : TE} (hl : PE X l tl) (hK : X.K = K := by rfl) : PI X tg l (iList K tl) := by subst hK; exact pi_list hl
theorem pi_tupK {tg l : Expr} {tl : TE} (hl : PE X l tl) (hK : X.K = K := by rfl) : PI X tg l (iTup K tl) := by subst hK; exact pi_tup hl
theorem pi_enumK {e : Expr} {ta : TA} {p pos tpos : Pos} {elts : List Expr} {kk : Nat} (hg : Gl X "enumerate") (hm : X.mg "enumerate" = none) (ha : PA X [e] ta) (hs : starEach [e] X.env = [(false, eval e X.env)] := by rfl) (hK : X.K = K := by rfl) :
    PI X (.Tuple elts kk tpos) (.Call (.Name "enumerate" p) [e] [] pos) (iEnum K ta) := by subst hK; exact pi_enum hg hm ha hs
theorem pg_tupK {es : List Expr} {k : Nat} {t : TGs} {n : Nat} {pos : Pos} (hc : X.calm = true) (h : PGs X es t) (hn : (assignEach es X.env).length = n := by rfl) (hst : (assignEach es X.env).findIdx? (·.1) = none := by rfl) (hK : X.K = K := by rfl) :
    PG X (.Tuple es k pos) (gTup K n t) := by subst hK; exact pg_tup hc h hn hst
theorem pe_bmK {o e : Expr} {es : List Expr} {to : TE} {t : TA} {name : Str} {apos cpos : Pos} {T id : String} {r : V → List V → Hp → VK → Prop} (pa : PlainAttrs T) (slot : Slot T name id) (hty : typeOf (.builtin id) = pure (.type "method_descriptor")) (hm : MtR X id r) (ho : PE X o to) (ha : PA X (e :: es) t)
    (hbase : attributeBase o name X.env (eval o X.env) = eval o X.env := by rfl)
    (hfew : ((backTo cpos (starEach (e :: es) X.env)).all (fun x => !x.1) && (backToKw cpos (keywordEach [] X.env)).all (fun x => x.1.isSome)
      && decide ((e :: es).length + ([] : List Keyword).length + (if ([] : List Keyword).isEmpty then 0 else 1) < 30)) = true := by rfl)
    (hline : (apos.endLine == cpos.line) = true := by rfl) (hs : starEach (e :: es) X.env = (false, eval e X.env) :: starEach es X.env := by rfl) (hplain : (backTo cpos (starEach es X.env)).any (·.1) = false := by rfl) (hK : X.K = K := by rfl) : PE X (.Call (.Attribute o name apos) (e :: es) [] cpos) (tBM K T r to t) := by subst hK; exact pe_bm pa slot hty hm ho ha hbase hfew hline hs hplain
end
/-- the law's promise -/
def sp_law (K : PySem.W.Frag) : Sp := fun vs H Q _ => ∃ (a : Addr) (ns : List Int), vs = [.ref a] ∧ SqL K H a (ns.map V.int) ∧ ns.length ≤ 63 ∧ ∀ H', Q (.bl true) H'
/-! ### all bars -/
def allFrom : Nat → Nat → List (List Int)
  | 0, _ => [[]]
  | n + 1, m => [] :: (List.range m).flatMap fun i => (allFrom n (i + 1)).map fun t => ((i + 1 : Nat) : Int) :: t
theorem mem_allFrom : ∀ (n : Nat) (m : Nat) (b : List Int), falls (m : Int) b = true → b.length ≤ n → b ∈ allFrom n m
  | 0, m, b, _, h => by
    have : b = [] := List.length_eq_zero_iff.mp (by omega)
    subst this
    simp [allFrom]
  | n + 1, m, [], _, _ => by simp [allFrom]
  | n + 1, m, x :: xs, hf, hl => by
    rw [falls, Bool.and_eq_true, decide_eq_true_eq] at hf
    obtain ⟨⟨h1, h2⟩, h3⟩ := hf
    have e : x = (((x - 1).toNat + 1 : Nat) : Int) := by omega
    rw [allFrom]
    refine List.mem_cons_of_mem _ (List.mem_flatMap.mpr ⟨(x - 1).toNat, List.mem_range.mpr (by omega), List.mem_map.mpr ⟨xs, ?_, by rw [← e]⟩⟩)
    refine mem_allFrom n _ xs (by rw [← e]; exact h3) ?_
    rw [List.length_cons] at hl
    omega
/-- what a table of all bars shows -/
theorem all_bars {P : List Int → Bool} (h : (allFrom 5 5).all (fun b => b.isEmpty || P b) = true) {b : List Int} (hb : IsBar 5 b) : P b = true := by
  have h1 := isBarB_iff.mpr hb
  unfold isBarB at h1
  rw [Bool.and_eq_true, decide_eq_true_eq] at h1
  have h2 := List.all_eq_true.mp h b (mem_allFrom 5 5 b h1.2 h1.1.2)
  have h3 : b.isEmpty = false := by
    cases b with
    | nil => exact absurd h1.1.1 (by decide)
    | cons x xs => rfl
  rw [h3, Bool.false_or] at h2
  exact h2
/-! ### bars turned -/
/-- how many rows reach column c -/
def cnt (b : List Int) (c : Nat) : Nat := (b.filter fun x => decide ((c : Int) < x)).length
def turnedL (b : List Int) : List Int := (List.range (b.headD 0).toNat).map fun c => (cnt b c : Int)
theorem turned_twice {b : List Int} (hb : IsBar 5 b) : IsBar 5 (turnedL b) ∧ turnedL (turnedL b) = b := by
  have h := all_bars (P := fun b => isBarB (turnedL b) && decide (turnedL (turnedL b) = b)) (by decide +kernel) hb
  rw [Bool.and_eq_true, decide_eq_true_eq] at h
  exact ⟨isBarB_iff.mp h.1, h.2⟩
theorem cnt_le (b : List Int) (c : Nat) : cnt b c ≤ b.length := List.length_filter_le _ _
theorem filter_more {ns : List Int} {i : Nat} {z : Int} (p : Int → Bool) (h : ns[i]? = some z) : (ns.take (i + 1)).filter p = (ns.take i).filter p ++ if p z then [z] else [] := by
  rw [take_more h, List.filter_append]
  cases e : p z <;> simp [e]
theorem head_is {b : List Int} (hb : IsBar 5 b) : ∃ z, b[0]? = some z ∧ b.headD 0 = z ∧ 1 ≤ z ∧ z ≤ 5 := by
  cases b with
  | nil => exact absurd hb.ne (by decide)
  | cons x xs => exact ⟨x, rfl, rfl, hb.rg x List.mem_cons_self⟩
theorem max_is {b : List Int} (hb : IsBar 5 b) {m : Int} (h1 : m ∈ b) (h2 : ∀ y ∈ b, y ≤ m) : m = b.headD 0 := by
  cases b with
  | nil => exact absurd hb.ne (by decide)
  | cons x xs =>
    show m = x
    have h3 := h2 x List.mem_cons_self
    rcases List.mem_cons.mp h1 with h | h
    · exact h
    · have := (List.pairwise_cons.mp hb.pw).1 m h
      omega
/-! ### the text -/
def topS (i : Nat) : Stmt := PySem.Challenge.pw_bitebar_k03_turned.main.body.getD i (.Pass ⟨0, 0, 0, 0⟩)
abbrev s_is_bar : Stmt := topS 6
abbrev N_is_bar : List Str := ["bar", "before", "pieces"]
theorem sc_is_bar : FnScope N_is_bar ["bar"] (defScope s_is_bar) := ⟨rfl, rfl, rfl, by decide +kernel, rfl, by decide +kernel, by decide +kernel⟩
section
variable {P : Program} {w : World} {K : PySem.W.Frag} {mg : Str → Option Value} {base : Heap}
/-- is_bar(bar) -/
def sp_is_bar (K : PySem.W.Frag) : Sp := fun vs H Q _ => ∃ (a : Addr) (ns : List Int), vs = [.ref a] ∧ SqL K H a (ns.map V.int) ∧ Q (.bl (isBarB ns)) H
theorem ok_is_bar {f : Addr} {fd : FuncData} (F : Fun K "is_bar" "is_bar" s_is_bar f fd) (m_len : mg "len" = none) {t1 t2 : Tok} (g_MOST_ROWS : mg "MOST_ROWS" = some (.int 5 t1)) (g_MOST_PIECES : mg "MOST_PIECES" = some (.int 5 t2)) :
    FnOk P w K mg base CX0 1 f fd ["bar"] (sp_is_bar K) := by
  refine F.ok sc_is_bar (fun vs H Q E h => ?_) (fun cdv A outer s H vs Q E hr h => ?_)
  · obtain ⟨a, ns, rfl, _⟩ := h
    rfl
  · obtain ⟨a, ns, rfl, hS, q⟩ := h
    have hl : (ns.map V.int).length = ns.length := List.length_map _
    refine ⟨_, (pss_cons (ps_if (PW.pt (pw_or (pt_cmpR op_lt (pe_callB (lenK (K := K)) (by rfl) m_len PySem.boot_len (pa_cons (pv 0) pa_nil)) pe_int (nomark _)) (pw_or1 (pt_cmpR op_gt (pe_callB (lenK (K := K)) (by rfl) m_len PySem.boot_len (pa_cons (pv 0) pa_nil)) (pe_glob (v := .int 5) (by rfl) g_MOST_ROWS ⟨_, rfl⟩) (nomark _)))))
        (pss_one (ps_ret pe_bl))
        pss_nil)
      (pss_cons (ps_set (i := 1) sc_is_bar.nd rfl (.inl rfl) (pe_glob (v := .int 5) (by rfl) g_MOST_PIECES ⟨_, rfl⟩))
      (pss_cons (ps_for PassesOwn.never rfl (pi_listK (K := K) (pv 0)) (pg_name (i := 2) sc_is_bar.nd rfl (.inl rfl))
        (pss_cons (ps_if (PW.pt (pw_or (pt_cmpR op_lt (pv 2) pe_int (nomark _)) (pw_or1 (pt_cmpR op_gt (pv 2) (pv 1) (nomark _)))))
          (pss_one (ps_ret pe_bl))
          pss_nil)
        (pss_one (ps_set (i := 1) sc_is_bar.nd rfl (.inl rfl) (pv 2)))))
      (pss_one (ps_ret pe_bl))))), ?_⟩
    refine ⟨_, rfl, a, _, rfl, .inl hS, _, _, rfl, rfl, _, rfl, ite2 (fun c => iteT ?_) (fun c => ?_)⟩
    · have c' := of_decide_eq_true c
      rw [hl] at c'
      have e : isBarB ns = false := by
        unfold isBarB
        rw [decide_eq_false (by omega), Bool.false_and]
      rw [e] at q
      exact q
    · refine ⟨_, rfl, a, _, rfl, .inl hS, _, _, rfl, rfl, _, rfl, ite2 (fun c2 => ?_) (fun c2 => ?_)⟩
      · have c' := of_decide_eq_true c2
        rw [hl] at c'
        have e : isBarB ns = false := by
          unfold isBarB
          rw [decide_eq_false (by omega), Bool.false_and]
        rw [e] at q
        exact q
      · have c1 := of_decide_eq_false (Bool.eq_false_iff.mpr c)
        have c2 := of_decide_eq_false (Bool.eq_false_iff.mpr c2)
        rw [hl] at c1 c2
        have e : isBarB ns = falls 5 ns := by
          unfold isBarB
          rw [decide_eq_true (by omega), Bool.true_and]
        rw [e] at q
        refine ⟨_, rfl, a, rfl, ⟨_, hS⟩, for_list (K := K) (a := a) (xs := ns.map V.int) (fun i σ H' => ∃ (m : Int) (v : Option V), σ = [some (.ref a), some (.int m), v] ∧ H' = H ∧ falls 5 ns = falls m (ns.drop i))
          ⟨5, none, rfl, rfl, rfl⟩ (fun i σ H' _ ⟨_, _, _, e, _⟩ => e ▸ hS) ?_ ?_⟩
        · rintro i y σ H' hi ⟨m, v, rfl, rfl, ef⟩
          obtain ⟨z, hz, rfl⟩ := map_get hi
          have hd : ns.drop i = z :: ns.drop (i + 1) := by
            obtain ⟨hi', e⟩ := List.getElem?_eq_some_iff.mp hz
            rw [List.drop_eq_getElem_cons hi', e]
          rw [hd, falls] at ef
          refine ⟨_, rfl, _, _, rfl, rfl, _, rfl, ite2 (fun c => iteT ?_) (fun c => ?_)⟩
          · have c' := of_decide_eq_true c
            rw [decide_eq_false (by omega), Bool.false_and] at ef
            rw [ef] at q
            exact q
          · refine ⟨_, rfl, _, rfl, _, _, rfl, rfl, _, rfl, ite2 (fun c2 => ?_) (fun c2 => ?_)⟩
            · have c' := of_decide_eq_true c2
              rw [decide_eq_false (by omega), Bool.false_and] at ef
              rw [ef] at q
              exact q
            · have c3 := of_decide_eq_false (Bool.eq_false_iff.mpr c)
              have c4 := of_decide_eq_false (Bool.eq_false_iff.mpr c2)
              rw [decide_eq_true (by omega), Bool.true_and] at ef
              exact ⟨_, rfl, z, some (.int z), rfl, rfl, ef⟩
        · rintro σ H' ⟨m, v, rfl, rfl, ef⟩
          rw [hl, List.drop_length, falls] at ef
          rw [ef] at q
          exact q
end
abbrev s_asked_bar : Stmt := topS 7
abbrev N_asked_bar : List Str := ["bar"]
theorem sc_asked_bar : FnScope N_asked_bar ["bar"] (defScope s_asked_bar) := ⟨rfl, rfl, rfl, by decide +kernel, rfl, by decide +kernel, by decide +kernel⟩
section
variable {P : Program} {w : World} {K : PySem.W.Frag} {mg : Str → Option Value} {base : Heap}
/-- asked_bar(bar), good bars -/
def sp_asked_bar (K : PySem.W.Frag) : Sp := fun vs H Q _ => ∃ (a : Addr) (ns : List Int), vs = [.ref a] ∧ SqL K H a (ns.map V.int) ∧ isBarB ns = true ∧ Q .non H
theorem ok_asked_bar {f : Addr} {fd : FuncData} (F : Fun K "asked_bar" "asked_bar" s_asked_bar f fd) (C_is_bar : Cal P w K mg base CX0 1 "is_bar" ["bar"] (sp_is_bar K)) :
    FnOk P w K mg base CX0 2 f fd ["bar"] (sp_asked_bar K) := by
  refine F.ok sc_asked_bar (fun vs H Q E h => ?_) (fun cdv A outer s H vs Q E hr h => ?_)
  · obtain ⟨a, ns, rfl, _⟩ := h
    rfl
  · obtain ⟨a, ns, rfl, hS, hb, q⟩ := h
    refine ⟨_, (pss_one (ps_if (pt_not (pt_val (pe_c C_is_bar hr (by decide) pass0 (pa_cons (pv 0) pa_nil))))
        (pss_one ps_never)
        pss_nil)), ?_⟩
    refine ⟨_, rfl, a, ns, rfl, hS, _, rfl, ?_⟩
    rw [hb]
    exact iteF q
end
abbrev s_turned : Stmt := topS 8
abbrev N_turned : List Str := ["bar", "pieces", "column"]
theorem sc_turned : FnScope N_turned ["bar"] (defScope s_turned) := ⟨rfl, rfl, rfl, by decide +kernel, rfl, by decide +kernel, by decide +kernel⟩
section
variable {P : Program} {w : World} {K : PySem.W.Frag} {mg : Str → Option Value} {base : Heap}
/-- turned(bar), good bars: a new list -/
def sp_turned (K : PySem.W.Frag) : Sp := fun vs H Q _ => ∃ (a : Addr) (ns : List Int), vs = [.ref a] ∧ SqL K H a (ns.map V.int) ∧ IsBar 5 ns ∧
  ∀ H' p, Same H H' → H p = none → H' p = some (.lst ((turnedL ns).map V.int)) → Q (.ref p) H'
theorem ok_turned {f : Addr} {fd : FuncData} (F : Fun K "turned" "turned" s_turned f fd) (m_len : mg "len" = none) (m_range : mg "range" = none) (C_asked_bar : Cal P w K mg base CX0 2 "asked_bar" ["bar"] (sp_asked_bar K)) :
    FnOk P w K mg base CX0 3 f fd ["bar"] (sp_turned K) := by
  refine F.ok sc_turned (fun vs H Q E h => ?_) (fun cdv A outer s H vs Q E hr h => ?_)
  · obtain ⟨a, ns, rfl, _⟩ := h
    rfl
  · obtain ⟨a, ns, rfl, hS, hb, q⟩ := h
    have hl : (ns.map V.int).length = ns.length := List.length_map _
    have hl5 : ns.length ≤ 5 := by have := hb.le; omega
    obtain ⟨z, hz, ez, z1, z5⟩ := head_is hb
    refine ⟨_, (pss_cons (ps_expr (pe_c C_asked_bar hr (by decide) pass0 (pa_cons (pv 0) pa_nil)))
      (pss_one (ps_ret (pe_lc (own := [("column", 2)]) (g := gName 2) (tt := tYes) rfl sc_turned.nd (pi_range1 (by rfl) m_range (pa_cons (pe_ix (ixK (K := K)) (pv 0) pe_int (fun _ _ => rfl)) pa_nil)) (blkOk_by (N := N_turned) (sc := defScope s_turned) (by decide +kernel)) (fun _ _ _ _ _ => (pg_name (i := 2) sc_turned.nd rfl (.inr rfl))) (fun _ _ _ _ _ => pts_nil) (fun _ _ _ _ _ => (pe_callB (lenK (K := K)) (by rfl) m_len PySem.boot_len (pa_cons (by exact (pe_lc (own := [("pieces", 1)]) (g := gName 1) rfl sc_turned.nd (pi_listK (K := K) (pv 0)) (blkOk_by (by kernel_rfl)) (fun _ _ _ _ _ => (pg_name (i := 1) sc_turned.nd rfl (.inl rfl))) (fun _ _ _ _ _ => (pts_one (pt_cmpR op_gt (pv 1) (pv 2) (nomark _)))) (fun _ _ _ _ _ => (pv 1)))) pa_nil))))))), ?_⟩
    refine ⟨_, rfl, a, ns, rfl, hS, isBarB_iff.mpr hb, ?_⟩
    refine ⟨_, rfl, a, _, _, _, rfl, rfl, hS, at_map hz, _, rfl, by omega, by omega, fun D nD => ?_⟩
    refine lc_range (lo := 0) (n := z.toNat) (fun i H' => Same H H' ∧ H' D = some (.lst ((List.range i).map fun c => V.int (cnt ns c : Int)))) ⟨sNew nD, upd_same⟩ ?_ ?_
    · rintro i H1 hi ⟨sm, hD⟩
      refine ⟨rfl, yesT ?_⟩
      have hA : SqL K H1 a (ns.map V.int) := sm.seq hS
      refine ⟨_, rfl, a, rfl, ⟨_, hA⟩, fun D2 nD2 => ?_⟩
      refine lc_list (K := K) (a := a) (xs := ns.map V.int) (fun j H' => Same H1 H' ∧ H' D2 = some (.lst (((ns.take j).filter fun x => decide ((i : Int) < x)).map V.int))) ⟨sNew nD2, upd_same⟩ (fun _ _ _ h => h.1.seq hA) ?_ ?_
      · rintro j y H2 hj ⟨sm2, hD2⟩
        obtain ⟨u, hu, rfl⟩ := map_get hj
        have hf := filter_more (fun x => decide ((i : Int) < x)) hu
        refine ⟨rfl, _, rfl, _, rfl, _, _, rfl, rfl, _, rfl, ?_⟩
        rw [Int.zero_add]
        refine ite2 (fun c => ?_) (fun c => ?_)
        · rw [if_pos c, ] at hf
          refine ⟨_, rfl, _, hD2, ?_, sPut sm2 nD2, ?_⟩
          · have := List.length_filter_le (fun x => decide ((i : Int) < x)) (ns.take j)
            rw [List.length_take] at this
            rw [List.length_map]
            exact small' (by omega)
          · rw [upd_same, hf, List.map_append]
            all_goals rfl
        · rw [if_neg c, List.append_nil] at hf
          exact ⟨sm2, by rw [hf]; exact hD2⟩
      · rintro H2 ⟨sm2, hD2⟩
        rw [hl, List.take_length] at hD2
        have hDk := sm2 _ _ hD
        refine ⟨D2, _, rfl, .inl (SqL.of hD2), _, hDk, by rw [List.length_map, List.length_range]; exact small' (by omega), sPut (sm.trans sm2) nD, ?_⟩
        rw [upd_same, List.range_succ, List.map_append, List.length_map]
        all_goals rfl
    · rintro H1 ⟨sm, hD⟩
      refine q H1 D sm nD ?_
      rw [hD]
      unfold turnedL
      rw [ez, List.map_map]
      all_goals rfl
end
abbrev s_law_cell_at : Stmt := topS 10
abbrev N_law_cell_at : List Str := ["script", "k"]
theorem sc_law_cell_at : FnScope N_law_cell_at ["script", "k"] (defScope s_law_cell_at) := ⟨rfl, rfl, rfl, by decide +kernel, rfl, by decide +kernel, by decide +kernel⟩
section
variable {P : Program} {w : World} {K : PySem.W.Frag} {mg : Str → Option Value} {base : Heap}
/-- _law_cell_at(script, k) -/
def cellAt (ns : List Int) (k : Nat) : Int := ns.getD k 0
def sp_law_cell_at (K : PySem.W.Frag) : Sp := fun vs H Q _ => ∃ (a : Addr) (ns : List Int) (k : Nat), vs = [.ref a, .int k] ∧ SqL K H a (ns.map V.int) ∧ Q (.int (cellAt ns k)) H
theorem ok_law_cell_at {f : Addr} {fd : FuncData} (F : Fun K "_law_cell_at" "_law_cell_at" s_law_cell_at f fd) (m_len : mg "len" = none) : FnOk P w K mg base CX0 1 f fd ["script", "k"] (sp_law_cell_at K) := by
  refine F.ok sc_law_cell_at (fun vs H Q E h => ?_) (fun cdv A outer s H vs Q E hr h => ?_)
  · obtain ⟨a, ns, k, rfl, _⟩ := h
    rfl
  · obtain ⟨a, ns, k, rfl, hS, q⟩ := h
    have hl : (ns.map V.int).length = ns.length := List.length_map _
    refine ⟨_, (pss_cons (ps_if (pt_cmpR op_lt (pv 1) (pe_callB (lenK (K := K)) (by rfl) m_len PySem.boot_len (pa_cons (pv 0) pa_nil)) (nomark _))
        (pss_one (ps_ret (pe_ix (ixK (K := K)) (pv 0) (pv 1) (fun _ _ => rfl))))
        pss_nil)
      (pss_one (ps_ret pe_int))), ?_⟩
    refine ⟨_, rfl, _, rfl, a, _, rfl, .inl hS, _, _, rfl, rfl, _, rfl, ite2 (fun c => ?_) (fun c => ?_)⟩
    · have c' := of_decide_eq_true c
      rw [hl] at c'
      have hk : k < ns.length := by omega
      have e : cellAt ns k = ns[k] := by
        unfold cellAt
        rw [List.getD_eq_getElem?_getD, List.getElem?_eq_getElem hk]; rfl
      rw [e] at q
      exact ⟨_, rfl, _, rfl, a, _, _, _, rfl, rfl, hS, at_map (List.getElem?_eq_getElem hk), q⟩
    · have c' := of_decide_eq_false (Bool.eq_false_iff.mpr c)
      rw [hl] at c'
      have e : cellAt ns k = 0 := by
        unfold cellAt
        rw [List.getD_eq_getElem?_getD, List.getElem?_eq_none (by omega)]; rfl
      rw [e] at q
      exact q
end
abbrev s_law_whole : Stmt := topS 11
abbrev N_law_whole : List Str := ["found"]
theorem sc_law_whole : FnScope N_law_whole ["found"] (defScope s_law_whole) := ⟨rfl, rfl, rfl, by decide +kernel, rfl, by decide +kernel, by decide +kernel⟩
section
variable {P : Program} {w : World} {K : PySem.W.Frag} {mg : Str → Option Value} {base : Heap}
/-- _law_whole(found), of an int -/
def sp_law_whole (K : PySem.W.Frag) : Sp := fun vs H Q _ => ∃ i : Int, vs = [.int i] ∧ Q (.bl true) H
theorem ok_law_whole {f : Addr} {fd : FuncData} (F : Fun K "_law_whole" "_law_whole" s_law_whole f fd) (m_isinstance : mg "isinstance" = none) (m_int : mg "int" = none) (m_bool : mg "bool" = none) : FnOk P w K mg base CX0 1 f fd ["found"] (sp_law_whole K) := by
  refine F.ok sc_law_whole (fun vs H Q E h => ?_) (fun cdv A outer s H vs Q E hr h => ?_)
  · obtain ⟨i, rfl, _⟩ := h
    rfl
  · obtain ⟨i, rfl, q⟩ := h
    refine ⟨_, (pss_one (ps_ret (pe_and (pe_callB (isiK (K := K)) (by rfl) m_isinstance (by decide +kernel) (pa_cons (pv 0) (pa_cons (pe_bltn (v := .ty "int") (by rfl) m_int (by decide +kernel) rfl) pa_nil))) (pe_one (pe_not (pe_callB (isiK (K := K)) (by rfl) m_isinstance (by decide +kernel) (pa_cons (pv 0) (pa_cons (pe_bltn (v := .ty "bool") (by rfl) m_bool (by decide +kernel) rfl) pa_nil)))))))), ?_⟩
    refine ⟨_, rfl, _, _, _, _, true, rfl, .ty _, .base (.int i), kit_ty (by decide +kernel), true, rfl, iteT ?_⟩
    exact ⟨_, rfl, _, _, _, _, false, rfl, .ty _, .base (.int i), kit_ty (by decide +kernel), false, rfl, q⟩
end
abbrev s_law_is_list : Stmt := topS 12
abbrev N_law_is_list : List Str := ["found", "due", "k"]
theorem sc_law_is_list : FnScope N_law_is_list ["found", "due"] (defScope s_law_is_list) := ⟨rfl, rfl, rfl, by decide +kernel, rfl, by decide +kernel, by decide +kernel⟩
section
variable {P : Program} {w : World} {K : PySem.W.Frag} {mg : Str → Option Value} {base : Heap}
/-- _law_is_list(found, due), of two lists of the same ints -/
def sp_law_is_list (K : PySem.W.Frag) : Sp := fun vs H Q _ => ∃ (p d : Addr) (ns : List Int), vs = [.ref p, .ref d] ∧ H p = some (.lst (ns.map V.int)) ∧ H d = some (.lst (ns.map V.int)) ∧ ns.length ≤ 1000 ∧ Q (.bl true) H
theorem ok_law_is_list {f : Addr} {fd : FuncData} (F : Fun K "_law_is_list" "_law_is_list" s_law_is_list f fd) (m_len : mg "len" = none) (m_range : mg "range" = none) (m_isinstance : mg "isinstance" = none) (m_list : mg "list" = none)
    (C_law_whole : Cal P w K mg base CX0 1 "_law_whole" ["found"] (sp_law_whole K)) : FnOk P w K mg base CX0 2 f fd ["found", "due"] (sp_law_is_list K) := by
  refine F.ok sc_law_is_list (fun vs H Q E h => ?_) (fun cdv A outer s H vs Q E hr h => ?_)
  · obtain ⟨p, d, ns, rfl, _⟩ := h
    rfl
  · obtain ⟨p, d, ns, rfl, hp, hd, hl, q⟩ := h
    have el : (ns.map V.int).length = ns.length := List.length_map _
    refine ⟨_, (pss_cons (ps_if (PW.pt (pw_or (pt_not (pt_val (pe_callB (isiK (K := K)) (by rfl) m_isinstance (by decide +kernel) (pa_cons (pv 0) (pa_cons (pe_bltn (v := .ty "list") (by rfl) m_list (by decide +kernel) rfl) pa_nil))))) (pw_or1 (pt_cmpR op_ne (pe_callB (lenK (K := K)) (by rfl) m_len PySem.boot_len (pa_cons (pv 0) pa_nil)) (pe_callB (lenK (K := K)) (by rfl) m_len PySem.boot_len (pa_cons (pv 1) pa_nil)) (nomark _)))))
        (pss_one (ps_ret pe_bl))
        pss_nil)
      (pss_cons (ps_for PassesOwn.never rfl (pi_range1 (by rfl) m_range (pa_cons (pe_callB (lenK (K := K)) (by rfl) m_len PySem.boot_len (pa_cons (pv 1) pa_nil)) pa_nil)) (pg_name (i := 2) sc_law_is_list.nd rfl (.inl rfl))
        (pss_one (ps_if (PW.pt (pw_or (pt_not (pt_val (pe_c C_law_whole hr (by decide) pass0 (pa_cons (pe_ix (ixK (K := K)) (pv 0) (pv 2) (fun _ _ => rfl)) pa_nil)))) (pw_or1 (pt_cmpR op_ne (pe_ix (ixK (K := K)) (pv 0) (pv 2) (fun _ _ => rfl)) (pe_ix (ixK (K := K)) (pv 1) (pv 2) (fun _ _ => rfl)) (nomark _)))))
          (pss_one (ps_ret pe_bl))
          pss_nil)))
      (pss_one (ps_ret pe_bl)))), ?_⟩
    refine ⟨_, rfl, _, _, _, _, true, rfl, .ty _, .base (.lst hp), kit_ty (by decide +kernel), true, rfl, iteF ?_⟩
    refine ⟨_, rfl, p, _, rfl, .inl (SqL.of hp), _, rfl, d, _, rfl, .inl (SqL.of hd), rfl, _, rfl, ?_⟩
    rw [decide_eq_true rfl]
    refine iteF ?_
    refine ⟨_, rfl, d, _, rfl, .inl (SqL.of hd), _, rfl, by omega, by omega,
      for_range (lo := 0) (fun i σ H' => ∃ (y2 : Option V), σ = [some (.ref p), some (.ref d), y2] ∧ H' = H) ⟨none, rfl, rfl⟩ ?_ ?_⟩
    · rintro i σ H1 hi ⟨y2, rfl, rfl⟩
      rw [el, Int.toNat_natCast] at hi
      have hz := List.getElem?_eq_getElem hi
      rw [Int.zero_add]
      refine ⟨_, rfl, _, rfl, p, _, _, _, rfl, rfl, SqL.of hp, at_map hz, ns[i], rfl, true, rfl, iteF ?_⟩
      refine ⟨_, rfl, _, rfl, p, _, _, _, rfl, rfl, SqL.of hp, at_map hz, _, rfl, _, rfl, d, _, _, _, rfl, rfl, SqL.of hd, at_map hz, rfl, _, rfl, ?_⟩
      rw [decide_eq_true rfl]
      exact iteF ⟨_, rfl, rfl⟩
    · rintro σ H1 ⟨y2, rfl, rfl⟩
      exact q
end
abbrev s_law_bar_by : Stmt := topS 13
abbrev N_law_bar_by : List Str := ["cell", "most", "many", "found", "k"]
theorem sc_law_bar_by : FnScope N_law_bar_by ["cell", "most"] (defScope s_law_bar_by) := ⟨rfl, rfl, rfl, by decide +kernel, rfl, by decide +kernel, by decide +kernel⟩
section
variable {P : Program} {w : World} {K : PySem.W.Frag} {mg : Str → Option Value} {base : Heap}
/-- _law_bar_by(cell, most): a bar -/
def sp_law_bar_by (K : PySem.W.Frag) : Sp := fun vs H Q _ => ∃ (c m : Int), vs = [.int c, .int m] ∧ 1 ≤ m ∧ m ≤ 5 ∧
  ∀ H' p ns, Same H H' → H p = none → H' p = some (.lst (ns.map V.int)) → IsBar m ns → Q (.ref p) H'
theorem ok_law_bar_by {f : Addr} {fd : FuncData} (F : Fun K "_law_bar_by" "_law_bar_by" s_law_bar_by f fd) (m_range : mg "range" = none) (m_sorted : mg "sorted" = none) : FnOk P w K mg base CX0 1 f fd ["cell", "most"] (sp_law_bar_by K) := by
  refine F.ok sc_law_bar_by (fun vs H Q E h => ?_) (fun cdv A outer s H vs Q E hr h => ?_)
  · obtain ⟨c, m, rfl, _⟩ := h
    rfl
  · obtain ⟨c, m, rfl, h1, h5, q⟩ := h
    have hm0 := Int.emod_nonneg c (show m ≠ 0 by omega)
    have hm1 := Int.emod_lt_of_pos c (show 0 < m by omega)
    refine ⟨_, (pss_cons (ps_set (i := 2) sc_law_bar_by.nd rfl (.inl rfl) (pe_op op_add pe_int (pe_op op_mod (pv 0) (pv 1))))
      (pss_cons (ps_set (i := 0) sc_law_bar_by.nd rfl (.inl rfl) (pe_op op_fdiv (pv 0) (pv 1)))
      (pss_cons (ps_set (i := 3) sc_law_bar_by.nd rfl (.inl rfl) (pe_lst pa_nil))
      (pss_cons (ps_for PassesOwn.never rfl (pi_range1 (by rfl) m_range (pa_cons (pv 2) pa_nil)) (pg_name (i := 4) sc_law_bar_by.nd rfl (.inl rfl))
        (pss_cons (ps_expr (pe_bmK (K := K) PySem.F.plainAttrs_list PySem.F.slot_list_append PySem.F.type_list_append mt_append (pv 3) (pa_cons (pe_op op_add pe_int (pe_op op_mod (pv 0) (pv 1))) pa_nil)))
        (pss_one (ps_set (i := 0) sc_law_bar_by.nd rfl (.inl rfl) (pe_op op_fdiv (pv 0) (pv 1))))))
      (pss_one (ps_ret (pe_callBK (sortedRevK (K := K)) (by rfl) m_sorted (by decide +kernel) (pa_cons (pv 3) pa_nil) (pk_cons pe_bl pk_nil)))))))), ?_⟩
    refine ⟨_, rfl, _, rfl, _, _, rfl, rfl, (by show 0 < m; omega), _, _, rfl, rfl, ?_⟩
    refine ⟨_, rfl, _, rfl, _, _, rfl, rfl, ⟨by omega, by omega⟩, Nat.zero_le _, fun o no => ?_⟩
    refine ⟨_, rfl, _, rfl, by omega, by omega,
      for_range (lo := 0) (fun i σ H' => ∃ (c' : Int) (y : Option V) (ds : List Int), σ = [some (.int c'), some (.int m), some (.int (1 + c % m)), some (.ref o), y] ∧ H' = upd H o (.lst (ds.map V.int)) ∧ ds.length = i ∧ ∀ x ∈ ds, 1 ≤ x ∧ x ≤ m)
      ⟨_, none, [], rfl, rfl, rfl, fun x hx => nomatch hx⟩ ?_ ?_⟩
    · rintro i σ H1 hi ⟨c', y, ds, rfl, rfl, el, hx⟩
      have hc0 := Int.emod_nonneg c' (show m ≠ 0 by omega)
      have hc1 := Int.emod_lt_of_pos c' (show 0 < m by omega)
      refine ⟨_, rfl, .inl ⟨rfl, _, SqL.of upd_same⟩, ?_⟩
      refine ⟨_, rfl, _, rfl, _, _, rfl, rfl, (by show 0 < m; omega), _, _, rfl, rfl, o, _, _, rfl, rfl, upd_same, by rw [List.length_map]; exact small' (by omega), ?_⟩
      refine ⟨_, rfl, _, rfl, _, _, rfl, rfl, ⟨by omega, by omega⟩, ?_⟩
      refine ⟨_, _, ds ++ [1 + c' % m], rfl, ?_, by rw [List.length_append, el]; rfl, fun x h => ?_⟩
      · rw [upd_upd, List.map_append]; rfl
      · rcases List.mem_append.mp h with h | h
        · exact hx x h
        · have := List.mem_singleton.mp h
          omega
    · rintro σ H1 ⟨c', y, ds, rfl, rfl, el, hx⟩
      refine ⟨_, rfl, o, ds, rfl, rfl, SqL.of upd_same, fun ns p hp ho np => ?_⟩
      have hlen := hp.length_eq
      refine q _ p ns (sThen (sNew no) np) ?_ upd_same ⟨by omega, by omega, ho, fun x h => hx x (hp.mem_iff.mp h)⟩
      cases e : H p with
      | none => rfl
      | some u =>
        have := sNew (o := .lst (ds.map V.int)) no p u e
        rw [np] at this
        cases this
end
abbrev s_law : Stmt := topS 14
abbrev N_law : List Str := ["script", "bar", "due", "row", "column", "handed", "found"]
theorem sc_law : FnScope N_law ["script"] (defScope s_law) := ⟨rfl, rfl, rfl, by decide +kernel, rfl, by decide +kernel, by decide +kernel⟩
section
variable {P : Program} {w : World} {K : PySem.W.Frag} {mg : Str → Option Value} {base : Heap}
theorem ok_law {f : Addr} {fd : FuncData} (F : Fun K "law" "law" s_law f fd) (m_list : mg "list" = none) (m_len : mg "len" = none) (m_range : mg "range" = none) (m_max : mg "max" = none) (C_law_bar_by : Cal P w K mg base CX0 1 "_law_bar_by" ["cell", "most"] (sp_law_bar_by K)) (C_law_cell_at : Cal P w K mg base CX0 1 "_law_cell_at" ["script", "k"] (sp_law_cell_at K))
    (C_turned : Cal P w K mg base CX0 3 "turned" ["bar"] (sp_turned K)) (C_law_is_list : Cal P w K mg base CX0 2 "_law_is_list" ["found", "due"] (sp_law_is_list K)) : FnOk P w K mg base CX0 4 f fd ["script"] (sp_law K) := by
  refine F.ok sc_law (fun vs H Q E h => ?_) (fun cdv A outer s H vs Q E hr h => ?_)
  · obtain ⟨a, ns, rfl, _⟩ := h
    rfl
  · obtain ⟨a, ns, rfl, hS, h63, q⟩ := h
    refine ⟨_, (pss_cons (ps_set (i := 1) sc_law.nd rfl (.inr rfl) (pe_c C_law_bar_by hr (by decide) pass0 (pa_cons (pe_c C_law_cell_at hr (by decide) pass0 (pa_cons (pv 0) (pa_cons pe_int pa_nil))) (pa_cons pe_int pa_nil))))
      (pss_cons (ps_setLc (i := 2) (own := [("column", 4)]) (g := gName 4) (tt := tYes) rfl sc_law.nd rfl rfl (sw_true rfl rfl rfl (by decide +kernel)) (pi_range1 (by rfl) m_range (pa_cons (pe_callB (maxK (K := K) rfl) (by rfl) m_max (by decide +kernel) (pa_cons (pv 1) pa_nil)) pa_nil)) (blkOk_by (N := N_law) (sc := defScope s_law) (by decide +kernel)) (fun _ _ _ _ _ => (pg_name (i := 4) sc_law.nd rfl (.inr rfl))) (fun _ _ _ _ _ => pts_nil) (fun _ _ _ _ _ => (pe_callB (lenK (K := K)) (by rfl) m_len PySem.boot_len (pa_cons (by exact (pe_lc (own := [("row", 3)]) (g := gName 3) rfl sc_law.nd (pi_range1 (by rfl) m_range (pa_cons (pe_callB (lenK (K := K)) (by rfl) m_len PySem.boot_len (pa_cons (pv 1) pa_nil)) pa_nil)) (blkOk_by (by kernel_rfl)) (fun _ _ _ _ _ => (pg_name (i := 3) sc_law.nd rfl (.inl rfl))) (fun _ _ _ _ _ => (pts_one (pt_cmpR op_gt (pe_ix (ixK (K := K)) (pv 1) (pv 3) (fun _ _ => rfl)) (pv 4) (nomark _)))) (fun _ _ _ _ _ => (pv 3)))) pa_nil))))
      (pss_cons (ps_set (i := 5) sc_law.nd rfl (.inl rfl) (pe_callTy (listK (K := K)) (by rfl) m_list (by decide +kernel) (pa_cons (pv 1) pa_nil)))
      (pss_cons (ps_set (i := 6) sc_law.nd rfl (.inl rfl) (pe_c C_turned hr (by decide) pass0 (pa_cons (pv 5) pa_nil)))
      (pss_cons (ps_if (PW.pt (pw_or (pt_not (pt_val (pe_c C_law_is_list hr (by decide) pass0 (pa_cons (pv 6) (pa_cons (pv 2) pa_nil))))) (pw_or (pt_cmpR (neDK (K := K) hr.units) (pv 5) (pv 1) (nomark _)) (pw_or1 (pt_not (pt_val (pe_c C_law_is_list hr (by decide) pass0 (pa_cons (pe_c C_turned hr (by decide) pass0 (pa_cons (pv 2) pa_nil)) (pa_cons (pv 1) pa_nil)))))))))
        (pss_one (ps_ret pe_bl))
        pss_nil)
      (pss_cons (ps_expr (pe_bmK (K := K) PySem.F.plainAttrs_list PySem.F.slot_list_append PySem.F.type_list_append mt_append (pv 6) (pa_cons pe_int pa_nil)))
      (pss_one (ps_ret (pe_and (pe_c C_law_is_list hr (by decide) pass0 (pa_cons (pe_c C_turned hr (by decide) pass0 (pa_cons (pv 5) pa_nil)) (pa_cons (pv 2) pa_nil))) (pe_one (pe_cmpR (eqDK (K := K) hr.units) (pv 5) (pv 1) (nomark _)))))))))))), ?_⟩
    refine ⟨_, rfl, a, ns, 0, rfl, hS, _, 5, rfl, by omega, by omega, fun H1 b bs s1 nb hb ib => ?_⟩
    have hl : (bs.map V.int).length = bs.length := List.length_map _
    have hl5 : bs.length ≤ 5 := by have := ib.le; omega
    obtain ⟨z, hz, ez, z1, z5⟩ := head_is ib
    obtain ⟨it, et⟩ := turned_twice ib
    have eT : turnedL bs = (List.range z.toNat).map fun c => (cnt bs c : Int) := by
      unfold turnedL
      rw [ez]
    -- due = [..]
    refine ⟨_, rfl, b, bs, rfl, SqL.of hb, by have := ib.ne; omega, fun m hm hx => ?_⟩
    obtain rfl : m = z := by rw [← ez]; exact max_is ib hm hx
    refine ⟨_, rfl, by omega, by omega, fun D nD => ?_⟩
    refine lc_range (lo := 0) (n := m.toNat) (fun i H' => Same H1 H' ∧ H' D = some (.lst ((List.range i).map fun c => V.int (cnt bs c : Int)))) ⟨sNew nD, upd_same⟩ ?_ ?_
    · rintro i H2 hi ⟨sm, hD⟩
      have hb2 := sm _ _ hb
      refine ⟨rfl, yesT ?_⟩
      refine ⟨_, rfl, b, _, rfl, .inl (SqL.of hb2), _, rfl, by omega, by omega, fun D2 nD2 => ?_⟩
      rw [hl, Int.toNat_natCast]
      refine lc_range (lo := 0) (n := bs.length) (fun j H' => Same H2 H' ∧ ∃ ys : List V, H' D2 = some (.lst ys) ∧ ys.length = ((bs.take j).filter fun x => decide ((i : Int) < x)).length) ⟨sNew nD2, [], upd_same, rfl⟩ ?_ ?_
      · rintro j H3 hj ⟨sm2, ys, hD2, el⟩
        have hu := List.getElem?_eq_getElem hj
        have hf := filter_more (fun x => decide ((i : Int) < x)) hu
        have hb3 := sm2 _ _ hb2
        have hyl := List.length_filter_le (fun x => decide ((i : Int) < x)) (bs.take j)
        rw [List.length_take] at hyl
        rw [Int.zero_add, Int.zero_add]
        refine ⟨rfl, _, rfl, _, rfl, b, _, _, _, rfl, rfl, SqL.of hb3, at_map hu, _, rfl, _, _, rfl, rfl, _, rfl, ite2 (fun c => ?_) (fun c => ?_)⟩
        · rw [if_pos c] at hf
          refine ⟨_, rfl, _, hD2, small' (by omega), sPut sm2 nD2, _, upd_same, ?_⟩
          rw [hf, List.length_append, List.length_append, el]
          all_goals rfl
        · rw [if_neg c, List.append_nil] at hf
          exact ⟨sm2, ys, hD2, by rw [hf]; exact el⟩
      · rintro H3 ⟨sm2, ys, hD2, el⟩
        rw [List.take_length] at el
        have hDk := sm2 _ _ hD
        refine ⟨D2, ys, rfl, .inl (SqL.of hD2), _, hDk, by rw [List.length_map, List.length_range]; exact small' (by omega), sPut (sm.trans sm2) nD, ?_⟩
        rw [upd_same, List.range_succ, List.map_append, el]
        all_goals rfl
    · rintro H2 ⟨s2, hD⟩
      have hD : H2 D = some (.lst ((turnedL bs).map V.int)) := by
        rw [hD, eT, List.map_map]
        all_goals rfl
      have hb2 := s2 _ _ hb
      -- handed = list(bar)
      refine ⟨_, rfl, b, _, rfl, .inl (SqL.of hb2), fun g ng => ?_⟩
      have s3 : Same H2 (upd H2 g (.lst (bs.map V.int))) := sNew ng
      have hg3 : upd H2 g (.lst (bs.map V.int)) g = some (.lst (bs.map V.int)) := upd_same
      generalize upd H2 g (.lst (bs.map V.int)) = H3 at s3 hg3 ⊢
      -- found = turned(handed)
      refine ⟨_, rfl, g, bs, rfl, SqL.of hg3, ib, fun H4 p s4 np hp => ?_⟩
      have hD4 := s4 _ _ (s3 _ _ hD)
      have hg4 := s4 _ _ hg3
      have hb4 := s4 _ _ (s3 _ _ hb2)
      have hlt : (turnedL bs).length ≤ 1000 := by have := it.le; omega
      refine ⟨_, rfl, _, rfl, p, D, _, rfl, hp, hD4, hlt, true, rfl, iteF ?_⟩
      refine ⟨_, rfl, _, rfl, _, _, dp_list (SqL.of hg4), dp_list (SqL.of hb4), shaped_list _, shaped_list _, _, rfl, ?_⟩
      rw [eqv_list, decide_eq_true rfl]
      refine iteF ?_
      refine ⟨_, rfl, D, _, rfl, SqL.of hD4, it, fun H5 r s5 nr hr5 => ?_⟩
      rw [et] at hr5
      have hb5 := s5 _ _ hb4
      have hg5 := s5 _ _ hg4
      have hp5 := s5 _ _ hp
      have hD5 := s5 _ _ hD4
      refine ⟨_, rfl, r, b, bs, rfl, hr5, hb5, by omega, true, rfl, iteF ?_⟩
      -- found.append(1)
      refine ⟨_, rfl, .inl ⟨rfl, _, SqL.of hp5⟩, p, _, _, rfl, rfl, hp5, by rw [List.length_map]; exact small' (by omega), ?_⟩
      have gp : g ≠ p := ne_of_none (H := H3) hg3 np
      have bp : b ≠ p := ne_of_none (H := H3) (s3 _ _ hb2) np
      have Dp : D ≠ p := ne_of_none (H := H3) (s3 _ _ hD) np
      have s6 : ∀ b o, b ≠ p → H5 b = some o → upd H5 p (.lst ((turnedL bs).map V.int ++ [.int 1])) b = some o := fun b o h e => by rw [upd_ne h]; exact e
      have hg6 := s6 _ _ gp hg5
      have hb6 := s6 _ _ bp hb5
      have hD6 := s6 _ _ Dp hD5
      generalize upd H5 p (.lst ((turnedL bs).map V.int ++ [.int 1])) = H6 at hg6 hb6 hD6 ⊢
      refine ⟨_, rfl, g, bs, rfl, SqL.of hg6, ib, fun H7 p2 s7 np2 hp2 => ?_⟩
      refine ⟨_, rfl, p2, D, _, rfl, hp2, s7 _ _ hD6, hlt, true, rfl, iteT ?_⟩
      refine ⟨_, rfl, _, rfl, _, _, dp_list (SqL.of (s7 _ _ hg6)), dp_list (SqL.of (s7 _ _ hb6)), shaped_list _, shaped_list _, ?_⟩
      rw [eqv_list, decide_eq_true rfl]
      exact q _
end
theorem all_mk {l : PySem.W.OpenLaw} {w : World} {K : PySem.W.Frag} {h : Heap} {mg : Str → Option Value} {fa f0 f1 f2 f3 f4 f5 f6 f7 : Addr} (X : K.In h) (G : h.Ns mainGlobals mg) (hfa : mg "law" = some (.ref fa))
    {od0 an0 od1 an1 od2 an2 od3 an3 od4 an4 od5 an5 od6 an6 od7 an7 : Option Addr} {sl0 sl1 sl2 sl3 sl4 sl5 sl6 sl7 : Array (Option Value)} {oc0 kV0 dc0 pm0 cd0 ct0 oc1 kV1 dc1 pm1 cd1 ct1 oc2 kV2 dc2 pm2 cd2 ct2 oc3 kV3 dc3 pm3 cd3 ct3 oc4 kV4 dc4 pm4 cd4 ct4 oc5 kV5 dc5 pm5 cd5 ct5 oc6 kV6 dc6 pm6 cd6 ct6 oc7 kV7 dc7 pm7 cd7 ct7 : Value}
    (a0 : PySem.W.nsIn K mainGlobals "is_bar" = some (some (.ref f0))) (l0 : K.lookup f0 = some ⟨oc0, od0, .func (PySem.W.fnOf "is_bar" "is_bar" (defArgs s_is_bar) (defBody s_is_bar) (defScope s_is_bar) .none kV0 dc0 pm0 an0 cd0 ct0), sl0⟩) (c0 : PySem.W.codeIn K cd0 "is_bar" = true) (k0 : PySem.W.keepIn K (.ref f0) = true)
    (a1 : PySem.W.nsIn K mainGlobals "asked_bar" = some (some (.ref f1))) (l1 : K.lookup f1 = some ⟨oc1, od1, .func (PySem.W.fnOf "asked_bar" "asked_bar" (defArgs s_asked_bar) (defBody s_asked_bar) (defScope s_asked_bar) .none kV1 dc1 pm1 an1 cd1 ct1), sl1⟩) (c1 : PySem.W.codeIn K cd1 "asked_bar" = true) (k1 : PySem.W.keepIn K (.ref f1) = true)
    (a2 : PySem.W.nsIn K mainGlobals "turned" = some (some (.ref f2))) (l2 : K.lookup f2 = some ⟨oc2, od2, .func (PySem.W.fnOf "turned" "turned" (defArgs s_turned) (defBody s_turned) (defScope s_turned) .none kV2 dc2 pm2 an2 cd2 ct2), sl2⟩) (c2 : PySem.W.codeIn K cd2 "turned" = true) (k2 : PySem.W.keepIn K (.ref f2) = true)
    (a3 : PySem.W.nsIn K mainGlobals "_law_cell_at" = some (some (.ref f3))) (l3 : K.lookup f3 = some ⟨oc3, od3, .func (PySem.W.fnOf "_law_cell_at" "_law_cell_at" (defArgs s_law_cell_at) (defBody s_law_cell_at) (defScope s_law_cell_at) .none kV3 dc3 pm3 an3 cd3 ct3), sl3⟩) (c3 : PySem.W.codeIn K cd3 "_law_cell_at" = true) (k3 : PySem.W.keepIn K (.ref f3) = true)
    (a4 : PySem.W.nsIn K mainGlobals "_law_whole" = some (some (.ref f4))) (l4 : K.lookup f4 = some ⟨oc4, od4, .func (PySem.W.fnOf "_law_whole" "_law_whole" (defArgs s_law_whole) (defBody s_law_whole) (defScope s_law_whole) .none kV4 dc4 pm4 an4 cd4 ct4), sl4⟩) (c4 : PySem.W.codeIn K cd4 "_law_whole" = true) (k4 : PySem.W.keepIn K (.ref f4) = true)
    (a5 : PySem.W.nsIn K mainGlobals "_law_is_list" = some (some (.ref f5))) (l5 : K.lookup f5 = some ⟨oc5, od5, .func (PySem.W.fnOf "_law_is_list" "_law_is_list" (defArgs s_law_is_list) (defBody s_law_is_list) (defScope s_law_is_list) .none kV5 dc5 pm5 an5 cd5 ct5), sl5⟩) (c5 : PySem.W.codeIn K cd5 "_law_is_list" = true) (k5 : PySem.W.keepIn K (.ref f5) = true)
    (a6 : PySem.W.nsIn K mainGlobals "_law_bar_by" = some (some (.ref f6))) (l6 : K.lookup f6 = some ⟨oc6, od6, .func (PySem.W.fnOf "_law_bar_by" "_law_bar_by" (defArgs s_law_bar_by) (defBody s_law_bar_by) (defScope s_law_bar_by) .none kV6 dc6 pm6 an6 cd6 ct6), sl6⟩) (c6 : PySem.W.codeIn K cd6 "_law_bar_by" = true) (k6 : PySem.W.keepIn K (.ref f6) = true)
    (a7 : PySem.W.nsIn K mainGlobals "law" = some (some (.ref f7))) (l7 : K.lookup f7 = some ⟨oc7, od7, .func (PySem.W.fnOf "law" "law" (defArgs s_law) (defBody s_law) (defScope s_law) .none kV7 dc7 pm7 an7 cd7 ct7), sl7⟩) (c7 : PySem.W.codeIn K cd7 "law" = true) (k7 : PySem.W.keepIn K (.ref f7) = true)
    (z_len : PySem.W.nsIn K mainGlobals "len" = some none)
    (z_range : PySem.W.nsIn K mainGlobals "range" = some none)
    (z_isinstance : PySem.W.nsIn K mainGlobals "isinstance" = some none)
    (z_int : PySem.W.nsIn K mainGlobals "int" = some none)
    (z_bool : PySem.W.nsIn K mainGlobals "bool" = some none)
    (z_list : PySem.W.nsIn K mainGlobals "list" = some none)
    (z_sorted : PySem.W.nsIn K mainGlobals "sorted" = some none)
    (z_max : PySem.W.nsIn K mainGlobals "max" = some none)
    {t_MOST_ROWS : Tok} (y_MOST_ROWS : PySem.W.nsIn K mainGlobals "MOST_ROWS" = some (some (.int 5 t_MOST_ROWS)))
    {t_MOST_PIECES : Tok} (y_MOST_PIECES : PySem.W.nsIn K mainGlobals "MOST_PIECES" = some (some (.int 5 t_MOST_PIECES)))
    : ∃ fd : FuncData, (∀ (s : Shared) (v : Value), BindsTo s fd ⟨[v], []⟩ [("script", v)]) ∧ ∀ base : Heap, K.In base → base.Ns mainGlobals mg → FnOk l.prog w K mg base CX0 60 fa fd ["script"] (sp_law K) := by
  have e := hfa.symm.trans (PySem.W.mg_of X G a7)
  cases e
  have m_len := PySem.W.mg_none_of X G z_len
  have m_range := PySem.W.mg_none_of X G z_range
  have m_isinstance := PySem.W.mg_none_of X G z_isinstance
  have m_int := PySem.W.mg_none_of X G z_int
  have m_bool := PySem.W.mg_none_of X G z_bool
  have m_list := PySem.W.mg_none_of X G z_list
  have m_sorted := PySem.W.mg_none_of X G z_sorted
  have m_max := PySem.W.mg_none_of X G z_max
  have g_MOST_ROWS := PySem.W.mg_of X G y_MOST_ROWS
  have g_MOST_PIECES := PySem.W.mg_of X G y_MOST_PIECES
  have F0 := fun_mk (st := s_is_bar) l0 c0 k0
  have b0 := F0.binds (ps := ["bar"]) fun _ _ _ _ _ _ us hl => match us, hl with | [_], _ => rfl
  have F1 := fun_mk (st := s_asked_bar) l1 c1 k1
  have b1 := F1.binds (ps := ["bar"]) fun _ _ _ _ _ _ us hl => match us, hl with | [_], _ => rfl
  have F2 := fun_mk (st := s_turned) l2 c2 k2
  have b2 := F2.binds (ps := ["bar"]) fun _ _ _ _ _ _ us hl => match us, hl with | [_], _ => rfl
  have F3 := fun_mk (st := s_law_cell_at) l3 c3 k3
  have b3 := F3.binds (ps := ["script", "k"]) fun _ _ _ _ _ _ us hl => match us, hl with | [_, _], _ => rfl
  have F4 := fun_mk (st := s_law_whole) l4 c4 k4
  have b4 := F4.binds (ps := ["found"]) fun _ _ _ _ _ _ us hl => match us, hl with | [_], _ => rfl
  have F5 := fun_mk (st := s_law_is_list) l5 c5 k5
  have b5 := F5.binds (ps := ["found", "due"]) fun _ _ _ _ _ _ us hl => match us, hl with | [_, _], _ => rfl
  have F6 := fun_mk (st := s_law_bar_by) l6 c6 k6
  have b6 := F6.binds (ps := ["cell", "most"]) fun _ _ _ _ _ _ us hl => match us, hl with | [_, _], _ => rfl
  have F7 := fun_mk (st := s_law) l7 c7 k7
  refine ⟨PySem.W.fnOf "law" "law" (defArgs s_law) (defBody s_law) (defScope s_law) .none kV7 dc7 pm7 an7 cd7 ct7, fun s v => .of_eq rfl, fun base _ _ => ?_⟩
  have C_is_bar := Cal.mk ⟨_, _, ok_is_bar (P := l.prog) (w := w) (base := base) F0 (m_len := m_len) (g_MOST_ROWS := g_MOST_ROWS) (g_MOST_PIECES := g_MOST_PIECES), PySem.W.mg_of X G a0, k0, b0⟩
  have C_asked_bar := Cal.mk ⟨_, _, ok_asked_bar (P := l.prog) (w := w) (base := base) F1 (C_is_bar := C_is_bar), PySem.W.mg_of X G a1, k1, b1⟩
  have C_turned := Cal.mk ⟨_, _, ok_turned (P := l.prog) (w := w) (base := base) F2 (m_len := m_len) (m_range := m_range) (C_asked_bar := C_asked_bar), PySem.W.mg_of X G a2, k2, b2⟩
  have C_law_cell_at := Cal.mk ⟨_, _, ok_law_cell_at (P := l.prog) (w := w) (base := base) F3 (m_len := m_len), PySem.W.mg_of X G a3, k3, b3⟩
  have C_law_whole := Cal.mk ⟨_, _, ok_law_whole (P := l.prog) (w := w) (base := base) F4 (m_isinstance := m_isinstance) (m_int := m_int) (m_bool := m_bool), PySem.W.mg_of X G a4, k4, b4⟩
  have C_law_is_list := Cal.mk ⟨_, _, ok_law_is_list (P := l.prog) (w := w) (base := base) F5 (m_len := m_len) (m_range := m_range) (m_isinstance := m_isinstance) (m_list := m_list) (C_law_whole := C_law_whole), PySem.W.mg_of X G a5, k5, b5⟩
  have C_law_bar_by := Cal.mk ⟨_, _, ok_law_bar_by (P := l.prog) (w := w) (base := base) F6 (m_range := m_range) (m_sorted := m_sorted), PySem.W.mg_of X G a6, k6, b6⟩
  exact (ok_law (P := l.prog) (w := w) (base := base) F7 (m_list := m_list) (m_len := m_len) (m_range := m_range) (m_max := m_max) (C_law_bar_by := C_law_bar_by) (C_law_cell_at := C_law_cell_at) (C_turned := C_turned) (C_law_is_list := C_law_is_list)).mono (by decide)
end Bb
open PySem PySem.W PyProof.Rows
set_option maxRecDepth 100000 in
set_option maxHeartbeats 0 in
theorem PySem.Challenge.cw_bitebar_k03_turned_holds : PySem.Challenge.rw_bitebar_k03_turned.Holds := by
  w_on; o_law; k_head; (case hw => w_witness2)
  k_fill
  refine L2.walk_of (l := PySem.Challenge.rw_bitebar_k03_turned) (n := 63) (k := 60) (x := "script") (CX := fun _ => L2.CX0) (sp := fun w => Bb.sp_law _) rfl (by decide) rfl ⟨rfl, by decide, by decide⟩ (fun w h Y => PySem.W.kIn_of Y) ?F (fun _ H a ns hl _ hS => ⟨a, ns, rfl, hS, hl, fun _ => rfl⟩) (fun _ _ _ _ _ h => h)
  case F =>
    intro w mg fa h KX G hmg
    refine' Bb.all_mk KX G hmg ?a0 ?l0 ?c0 ?k0 ?a1 ?l1 ?c1 ?k1 ?a2 ?l2 ?c2 ?k2 ?a3 ?l3 ?c3 ?k3 ?a4 ?l4 ?c4 ?k4 ?a5 ?l5 ?c5 ?k5 ?a6 ?l6 ?c6 ?k6 ?a7 ?l7 ?c7 ?k7 ?z_len ?z_range ?z_isinstance ?z_int ?z_bool ?z_list ?z_sorted ?z_max ?y_MOST_ROWS ?y_MOST_PIECES
    (case a0 => k_is); (case l0 => k_is); (case c0 => k_is); (case k0 => k_is); (case a1 => k_is); (case l1 => k_is); (case c1 => k_is); (case k1 => k_is); (case a2 => k_is); (case l2 => k_is); (case c2 => k_is); (case k2 => k_is); (case a3 => k_is); (case l3 => k_is); (case c3 => k_is); (case k3 => k_is); (case a4 => k_is); (case l4 => k_is); (case c4 => k_is); (case k4 => k_is); (case a5 => k_is); (case l5 => k_is); (case c5 => k_is); (case k5 => k_is); (case a6 => k_is); (case l6 => k_is); (case c6 => k_is); (case k6 => k_is); (case a7 => k_is); (case l7 => k_is); (case c7 => k_is); (case k7 => k_is); (case z_len => k_is); (case z_range => k_is); (case z_isinstance => k_is); (case z_int => k_is); (case z_bool => k_is); (case z_list => k_is); (case z_sorted => k_is); (case z_max => k_is); (case y_MOST_ROWS => k_is); (case y_MOST_PIECES => k_is)
#print axioms PySem.Challenge.cw_bitebar_k03_turned_holds
