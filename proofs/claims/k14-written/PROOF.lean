import PyProof.Rows.All
import Wide.All
import OpenK.AllK
import Wide.FinOn
import HandS.ForMost
import HandS.SortKw
import HandS.Deep
import HandS.IsInst
import HandS.Codes
import HandS.Replace
import PySem.Challenge.RW_bitebar_k14_written
set_option Elab.async false
set_option linter.all false
set_option maxRecDepth 100000
set_option maxHeartbeats 8000000
namespace Bb
open PySem PySem.Spec PyProof.Rows L2
/-! ### bars, bites -/
/-- a bar of at most m rows of at most m pieces -/
structure IsBar (m : Int) (b : List Int) : Prop where
  ne : 1 ≤ b.length
  le : (b.length : Int) ≤ m
  pw : b.Pairwise (· ≥ ·)
  rg : ∀ x ∈ b, 1 ≤ x ∧ x ≤ m
theorem IsBar.mono {m n : Int} {b : List Int} (h : IsBar m b) (hn : m ≤ n) : IsBar n b :=
  ⟨h.ne, Int.le_trans h.le hn, h.pw, fun x hx => ⟨(h.rg x hx).1, Int.le_trans (h.rg x hx).2 hn⟩⟩
/-- each row from 1 on, none greater than the one ahead -/
def falls (m : Int) : List Int → Bool
  | [] => true
  | x :: xs => decide (1 ≤ x ∧ x ≤ m) && falls x xs
def isBarB (b : List Int) : Bool := decide (1 ≤ b.length ∧ b.length ≤ 5) && falls 5 b
theorem falls_iff {m : Int} {b : List Int} : falls m b = true ↔ b.Pairwise (· ≥ ·) ∧ ∀ x ∈ b, 1 ≤ x ∧ x ≤ m := by
  induction b generalizing m with
  | nil => simp [falls]
  | cons x xs ih =>
    rw [falls, Bool.and_eq_true, decide_eq_true_eq, ih, List.pairwise_cons]
    constructor
    · rintro ⟨⟨h1, h2⟩, h3, h4⟩
      refine ⟨⟨fun y hy => (h4 y hy).2, h3⟩, fun y hy => ?_⟩
      rcases List.mem_cons.mp hy with rfl | hy
      · exact ⟨h1, h2⟩
      · exact ⟨(h4 y hy).1, Int.le_trans (h4 y hy).2 h2⟩
    · rintro ⟨⟨h1, h2⟩, h3⟩
      exact ⟨h3 x (List.mem_cons_self), h2, fun y hy => ⟨(h3 y (List.mem_cons_of_mem _ hy)).1, h1 y hy⟩⟩
theorem isBarB_iff {b : List Int} : isBarB b = true ↔ IsBar 5 b := by
  unfold isBarB
  rw [Bool.and_eq_true, decide_eq_true_eq, falls_iff]
  constructor
  · rintro ⟨⟨h1, h2⟩, h3, h4⟩
    exact ⟨h1, by omega, h3, h4⟩
  · rintro ⟨h1, h2, h3, h4⟩
    exact ⟨⟨h1, by omega⟩, h3, h4⟩
/-- the bites of row r, columns below n -/
def rowL (r : Nat) : Nat → List (Nat × Nat)
  | 0 => []
  | n + 1 => rowL r n ++ if 0 < r + n then [(r, n)] else []
def bitesFrom (r : Nat) : List Int → List (Nat × Nat)
  | [] => []
  | x :: xs => rowL r x.toNat ++ bitesFrom (r + 1) xs
def bitesL (b : List Int) : List (Nat × Nat) := bitesFrom 0 b
theorem bitesFrom_append (r : Nat) : ∀ (xs ys : List Int), bitesFrom r (xs ++ ys) = bitesFrom r xs ++ bitesFrom (r + xs.length) ys := by
  intro xs
  induction xs generalizing r with
  | nil => intro ys; simp [bitesFrom]
  | cons x xs ih =>
    intro ys
    rw [List.cons_append, bitesFrom, bitesFrom, ih, List.append_assoc, List.length_cons, Nat.add_assoc, Nat.add_comm 1 xs.length]
theorem take_more {α : Type} {l : List α} {i : Nat} {x : α} (h : l[i]? = some x) : l.take (i + 1) = l.take i ++ [x] := by
  rw [List.take_add_one, h]; rfl
theorem bitesL_more {b : List Int} {i : Nat} {x : Int} (h : b[i]? = some x) : bitesL (b.take (i + 1)) = bitesL (b.take i) ++ rowL i x.toNat := by
  have hi : i < b.length := (List.getElem?_eq_some_iff.mp h).1
  unfold bitesL
  rw [take_more h, bitesFrom_append, List.length_take, Nat.min_eq_left (Nat.le_of_lt hi), Nat.zero_add]
  simp [bitesFrom]
theorem rowL_len (r n : Nat) : (rowL r n).length ≤ n := by
  induction n with
  | zero => simp [rowL]
  | succ n ih => rw [rowL, List.length_append]; split <;> simp <;> omega
theorem mem_rowL {r n : Nat} {p : Nat × Nat} : p ∈ rowL r n ↔ p.1 = r ∧ p.2 < n ∧ 0 < r + p.2 := by
  induction n with
  | zero => simp [rowL]
  | succ n ih =>
    rw [rowL, List.mem_append, ih]
    obtain ⟨a, c⟩ := p
    constructor
    · rintro (⟨h1, h2, h3⟩ | h)
      · exact ⟨h1, by omega, h3⟩
      · split at h
        · simp at h; obtain ⟨h1, h2⟩ := h; subst h1 h2; exact ⟨rfl, by simp, by assumption⟩
        · cases h
    · rintro ⟨h1, h2, h3⟩
      simp only at h1 h2 h3
      subst h1
      by_cases e : c = n
      · subst e; right; rw [if_pos h3]; simp
      · left; exact ⟨rfl, by simp only; omega, h3⟩
theorem mem_bitesFrom {r : Nat} {b : List Int} {p : Nat × Nat} : p ∈ bitesFrom r b ↔ ∃ i x, b[i]? = some x ∧ p.1 = r + i ∧ (p.2 : Int) < x ∧ 0 < p.1 + p.2 := by
  induction b generalizing r with
  | nil => simp [bitesFrom]
  | cons y ys ih =>
    rw [bitesFrom, List.mem_append, mem_rowL, ih]
    constructor
    · rintro (⟨h1, h2, h3⟩ | ⟨i, x, h1, h2, h3, h4⟩)
      · exact ⟨0, y, rfl, by omega, by omega, by omega⟩
      · exact ⟨i + 1, x, by simpa using h1, by omega, h3, h4⟩
    · rintro ⟨i, x, h1, h2, h3, h4⟩
      cases i with
      | zero =>
        left
        have e : y = x := by simpa using h1
        subst e
        exact ⟨by omega, by omega, by omega⟩
      | succ i =>
        right
        exact ⟨i, x, by simpa using h1, by omega, h3, h4⟩
theorem mem_bitesL {b : List Int} {p : Nat × Nat} : p ∈ bitesL b ↔ ∃ x, b[p.1]? = some x ∧ (p.2 : Int) < x ∧ 0 < p.1 + p.2 := by
  unfold bitesL
  rw [mem_bitesFrom]
  constructor
  · rintro ⟨i, x, h1, h2, h3, h4⟩
    have e : p.1 = i := by omega
    subst e
    exact ⟨x, h1, h3, h4⟩
  · rintro ⟨x, h1, h2, h3⟩
    exact ⟨p.1, x, h1, by omega, h2, h3⟩
theorem bitesFrom_len (r : Nat) : ∀ (b : List Int), (∀ x ∈ b, x ≤ 5) → (bitesFrom r b).length ≤ 5 * b.length := by
  intro b
  induction b generalizing r with
  | nil => intro _; simp [bitesFrom]
  | cons x xs ih =>
    intro h
    have h1 := rowL_len r x.toNat
    have h2 := ih (r + 1) fun y hy => h y (List.mem_cons_of_mem _ hy)
    have h3 := h x List.mem_cons_self
    rw [bitesFrom, List.length_append, List.length_cons]
    omega
theorem bitesL_len {b : List Int} (h : IsBar 5 b) : (bitesL b).length ≤ 25 := by
  have := bitesFrom_len 0 b fun x hx => (h.rg x hx).2
  have := h.le
  unfold bitesL
  omega
theorem bitesL_take_len {b : List Int} (h : IsBar 5 b) (i : Nat) : (bitesL (b.take i)).length ≤ 25 := by
  have := bitesFrom_len 0 (b.take i) fun x hx => (h.rg x (List.mem_of_mem_take hx)).2
  have := h.le
  have : (b.take i).length ≤ b.length := by rw [List.length_take]; omega
  unfold bitesL
  omega
/-- the bar behind a bite -/
def behindL (b : List Int) (r c : Nat) : List Int := b.take r ++ if 0 < c then (b.drop r).map fun x => min x (c : Int) else []
/-! ### heaps -/
theorem sNew {H : Hp} {p : Addr} {o : HO} (h : H p = none) : Same H (upd H p o) := fun b x e => by
  rw [upd_ne (ne_of_none e h)]
  exact e
theorem sThen {H0 H : Hp} {p : Addr} {o : HO} (s : Same H0 H) (h : H p = none) : Same H0 (upd H p o) := s.trans (sNew h)
/-- an object that was not there at the start is written -/
theorem sPut {H0 H : Hp} {p : Addr} {o : HO} (s : Same H0 H) (h : H0 p = none) : Same H0 (upd H p o) := fun b x e => by
  rw [upd_ne (ne_of_none e h)]
  exact s b x e
/-- the tuples stay -/
def KT (H H' : Hp) : Prop := ∀ t xs, H t = some (.tup xs) → H' t = some (.tup xs)
theorem KT.refl (H : Hp) : KT H H := fun _ _ h => h
theorem KT.trans {H H1 H2 : Hp} (a : KT H H1) (b : KT H1 H2) : KT H H2 := fun t xs h => b t xs (a t xs h)
theorem KT.same {H H' : Hp} (s : Same H H') : KT H H' := fun t xs h => s _ _ h
theorem KT.new {H : Hp} {p : Addr} {o : HO} (h : H p = none) : KT H (upd H p o) := KT.same (sNew h)
theorem KT.lst {H : Hp} {p : Addr} {o : HO} {xs : List V} (h : H p = some (.lst xs)) : KT H (upd H p o) := fun t ys e => by
  rw [upd_ne (ne_of e h (by intro q; cases q))]
  exact e
theorem KT.dK {H : Hp} {p : Addr} {o : HO} {xs : List (Key × V)} (h : H p = some (.dK xs)) : KT H (upd H p o) := fun t ys e => by
  rw [upd_ne (ne_of e h (by intro q; cases q))]
  exact e
theorem KT.dT {H : Hp} {p : Addr} {o : HO} {xs : List (List Key × V)} (h : H p = some (.dT xs)) : KT H (upd H p o) := fun t ys e => by
  rw [upd_ne (ne_of e h (by intro q; cases q))]
  exact e
/-- a list of tuples of ints -/
abbrev TL (H : Hp) (xs : List V) (ds : List (List Int)) : Prop := Paired (fun (x : V) (d : List Int) => ∃ t, x = .ref t ∧ H t = some (.tup (d.map V.int))) xs ds
theorem TL.keep {H H' : Hp} (k : KT H H') {xs : List V} {ds : List (List Int)} (h : TL H xs ds) : TL H' xs ds :=
  Paired.mapP h fun _ _ ⟨t, e, z⟩ => ⟨t, e, k _ _ z⟩
theorem TL.nil {H : Hp} : TL H [] [] := Paired.nil
theorem TL.length {H : Hp} {xs : List V} {ds : List (List Int)} (h : TL H xs ds) : xs.length = ds.length := Paired.length h
theorem TL.append {H : Hp} {xs ys : List V} {ds es : List (List Int)} (h : TL H xs ds) (h' : TL H ys es) : TL H (xs ++ ys) (ds ++ es) := by
  induction h with
  | nil => exact h'
  | cons r _ ih => exact Paired.cons r ih
theorem TL.snoc {H : Hp} {xs : List V} {ds : List (List Int)} {t : Addr} {d : List Int} (h : TL H xs ds) (e : H t = some (.tup (d.map V.int))) : TL H (xs ++ [.ref t]) (ds ++ [d]) :=
  h.append (Paired.cons ⟨t, rfl, e⟩ Paired.nil)
theorem TL.get {H : Hp} : ∀ {xs : List V} {ds : List (List Int)} {i : Nat} {d : List Int}, TL H xs ds → ds[i]? = some d → ∃ t, xs[i]? = some (.ref t) ∧ H t = some (.tup (d.map V.int))
  | _, _, i, d, Paired.nil, e => by simp at e
  | _, _, 0, d, Paired.cons ⟨t, h1, h2⟩ _, e => by
    obtain rfl := Option.some.inj e
    exact ⟨t, by rw [h1]; rfl, h2⟩
  | _, _, i + 1, d, Paired.cons _ r, e => by
    obtain ⟨t, h1, h2⟩ := TL.get (i := i) r (by simpa using e)
    exact ⟨t, by simpa using h1, h2⟩
/-- a bite's place -/
def pr (p : Nat × Nat) : List Int := [(p.1 : Int), (p.2 : Int)]
theorem small {n : Nat} (h : n ≤ 100000) : n ≤ sizeLine := Nat.le_trans h (by rw [sizeLine_eq]; decide)
theorem small' {n : Nat} (h : n ≤ 100000) : n < sizeLine := Nat.lt_of_le_of_lt h (by rw [sizeLine_eq]; decide)
theorem map_get {ns : List Int} {i : Nat} {y : V} (h : (ns.map V.int)[i]? = some y) : ∃ z, ns[i]? = some z ∧ y = V.int z := by
  rw [List.getElem?_map] at h
  cases e : ns[i]? with
  | none => rw [e] at h; cases h
  | some z => rw [e] at h; exact ⟨z, rfl, (Option.some.inj h).symm⟩
theorem get_map {ns : List Int} {i : Nat} {z : Int} (h : ns[i]? = some z) : (ns.map V.int)[i]? = some (V.int z) := by
  rw [List.getElem?_map, h]; rfl
theorem at_map {ns : List Int} {i : Nat} {z : Int} (h : ns[i]? = some z) : atI (ns.map V.int) (i : Int) = some (V.int z) := atI_nat (get_map h)
theorem in62 {n : Nat} (h : n ≤ 100000) : -(2 ^ 62) ≤ (n : Int) ∧ (n : Int) < 2 ^ 62 := by
  constructor <;> omega
/-! ### calls -/
structure Cal (P : Program) (w : World) (K : PySem.W.Frag) (mg : Str → Option Value) (base : Heap) (CX : CXT) (k : Nat) (x : Str) (ps : List Str) (sp : Sp) : Prop where
  ex : ∃ (f : Addr) (fd : FuncData), FnOk P w K mg base CX k f fd ps sp ∧ mg x = some (.ref f) ∧ PySem.W.keepIn K (.ref f) = true ∧ Binds K fd ps []
theorem pe_c {X : Cx} {CX : CXT} {k j : Nat} {x : Str} {ps : List Str} {sp : Sp} {E : XK} {e : Expr} {es : List Expr} {t : TA} {p pos : Pos} (C : Cal X.prog X.w X.K X.mg X.base CX k x ps sp) (hr : Room j X.A) (hj : k ≤ j) (hx : Passes CX X E) (ha : PA X (e :: es) t)
    (hg : Gl X x := by rfl) (hdb : (x == ("__debug__" : Str)) = false := by decide) (he : starEach (e :: es) X.env = (false, eval e X.env) :: starEach es X.env := by rfl) (hpl : (backTo pos (starEach es X.env)).any (·.1) = false := by rfl) :
    PE X (.Call (.Name x p) (e :: es) [] pos) (tCall sp [] E t) := by
  obtain ⟨f, fd, F, gm, kp, bd⟩ := C.ex
  exact pe_call F (hr.mono hj) hg gm kp bd .nil hx ha hdb he hpl
/-- a comprehension without a test -/
theorem yesT {σ : L2.St} {H : Hp} {A B : Hp → Prop} (h : A H) : tYes σ H (fun b H' => if b = true then A H' else B H') := by
  show if true = true then A H else B H
  rw [if_pos rfl]
  exact h
/-! ### tests whose answer is known -/
theorem dT_ {p : Prop} [Decidable p] {A B : Prop} (h : p) (x : A) : if decide p = true then A else B := by
  rw [if_pos (decide_eq_true h)]
  exact x
theorem dF_ {p : Prop} [Decidable p] {A B : Prop} (h : ¬ p) (x : B) : if decide p = true then A else B := by
  rw [if_neg (by rw [decide_eq_false h]; exact Bool.false_ne_true)]
  exact x
theorem nT_ {p : Prop} [Decidable p] {A B : Prop} (h : ¬ p) (x : A) : if (!decide p) = true then A else B := by
  rw [if_pos (by rw [decide_eq_false h]; rfl)]
  exact x
theorem nF_ {p : Prop} [Decidable p] {A B : Prop} (h : p) (x : B) : if (!decide p) = true then A else B := by
  rw [if_neg (by rw [decide_eq_true h]; exact Bool.false_ne_true)]
  exact x
/-- ways by a test -/
theorem d2_ {p : Prop} [Decidable p] {A B : Prop} (x : p → A) (y : ¬ p → B) : if decide p = true then A else B := by
  by_cases h : p
  · exact dT_ h (x h)
  · exact dF_ h (y h)
theorem n2_ {p : Prop} [Decidable p] {A B : Prop} (x : ¬ p → A) (y : p → B) : if (!decide p) = true then A else B := by
  by_cases h : p
  · exact nF_ h (y h)
  · exact nT_ h (x h)
theorem int_eq {i j : Int} (h : V.int i = V.int j) : i = j := V.int.inj h
/-! ### data: lists and tuples of ints, lists of these -/
abbrev dI (ns : List Int) : List PyData := ns.map PyData.int
abbrev dT (ds : List (List Int)) : List PyData := ds.map fun d => PyData.tuple (dI d)
abbrev dL (ds : List (List Int)) : List PyData := ds.map fun d => PyData.list (dI d)
theorem dp_ints {K : PySem.W.Frag} {H : Hp} : ∀ ns : List Int, DpAll K H (ns.map V.int) (dI ns)
  | [] => .nil
  | x :: xs => .cons (.int x) (dp_ints xs)
theorem dp_tups {K : PySem.W.Frag} {H : Hp} : ∀ {xs : List V} {ds : List (List Int)}, TL H xs ds → DpAll K H xs (dT ds)
  | _, _, Paired.nil => .nil
  | _, _, Paired.cons ⟨t, e, h⟩ r => by
    subst e
    exact .cons (.tup (SqT.of h) (dp_ints _)) (dp_tups r)
theorem lay_ints : ∀ ns : List Int, PyData.canLayAll0 (dI ns) = true ∧ PyData.depthAll (dI ns) = 0
  | [] => ⟨by simp [PyData.canLayAll0], by simp [PyData.depthAll]⟩
  | x :: xs => by
    obtain ⟨h1, h2⟩ := lay_ints xs
    refine ⟨?_, ?_⟩
    · rw [dI, List.map_cons, PyData.canLayAll0, h1, PyData.canLay0]; rfl
    · rw [dI, List.map_cons, PyData.depthAll, h2, PyData.depth]; rfl
theorem shaped_list (ns : List Int) : SeqAt.shaped (.list (dI ns)) = true := by
  obtain ⟨h1, h2⟩ := lay_ints ns
  unfold SeqAt.shaped
  rw [PyData.canLay0, h1, PyData.depth, h2]
  rfl
theorem shaped_tup (ns : List Int) : SeqAt.shaped (.tuple (dI ns)) = true := by
  obtain ⟨h1, h2⟩ := lay_ints ns
  unfold SeqAt.shaped
  rw [PyData.canLay0, h1, PyData.depth, h2]
  rfl
theorem lay_tups : ∀ ds : List (List Int), PyData.canLayAll0 (dT ds) = true ∧ PyData.depthAll (dT ds) ≤ 1
  | [] => ⟨by simp [PyData.canLayAll0], by simp [PyData.depthAll]⟩
  | x :: xs => by
    obtain ⟨h1, h2⟩ := lay_tups xs
    obtain ⟨h3, h4⟩ := lay_ints x
    refine ⟨?_, ?_⟩
    · rw [dT, List.map_cons, PyData.canLayAll0, h1, PyData.canLay0, h3]; rfl
    · rw [dT, List.map_cons, PyData.depthAll, PyData.depth, h4]
      exact Nat.max_le.mpr ⟨Nat.le_refl _, h2⟩
theorem lay_lsts : ∀ ds : List (List Int), PyData.canLayAll0 (dL ds) = true ∧ PyData.depthAll (dL ds) ≤ 1
  | [] => ⟨by simp [PyData.canLayAll0], by simp [PyData.depthAll]⟩
  | x :: xs => by
    obtain ⟨h1, h2⟩ := lay_lsts xs
    obtain ⟨h3, h4⟩ := lay_ints x
    refine ⟨?_, ?_⟩
    · rw [dL, List.map_cons, PyData.canLayAll0, h1, PyData.canLay0, h3]; rfl
    · rw [dL, List.map_cons, PyData.depthAll, PyData.depth, h4]
      exact Nat.max_le.mpr ⟨Nat.le_refl _, h2⟩
theorem shaped_tups (ds : List (List Int)) : SeqAt.shaped (.list (dT ds)) = true := by
  obtain ⟨h1, h2⟩ := lay_tups ds
  unfold SeqAt.shaped
  rw [PyData.canLay0, h1, PyData.depth, Bool.true_and]
  exact decide_eq_true (by omega)
theorem shaped_lsts (ds : List (List Int)) : SeqAt.shaped (.list (dL ds)) = true := by
  obtain ⟨h1, h2⟩ := lay_lsts ds
  unfold SeqAt.shaped
  rw [PyData.canLay0, h1, PyData.depth, Bool.true_and]
  exact decide_eq_true (by omega)
theorem eqv_ints : ∀ ns ms : List Int, PyData.eqvAll (dI ns) (dI ms) = decide (ns = ms)
  | [], [] => by simp [dI, PyData.eqvAll]
  | [], _ :: _ => by simp [dI, PyData.eqvAll]
  | _ :: _, [] => by simp [dI, PyData.eqvAll]
  | x :: xs, y :: ys => by
    show PyData.eqvAll (PyData.int x :: dI xs) (PyData.int y :: dI ys) = _
    rw [PyData.eqvAll, eqv_ints xs ys, PyData.eqv, Bool.beq_eq_decide_eq]
    by_cases e : x = y
    · subst e; by_cases e2 : xs = ys <;> simp [e2]
    · simp [e]
theorem eqv_list (ns ms : List Int) : PyData.eqv (.list (dI ns)) (.list (dI ms)) = decide (ns = ms) := by rw [PyData.eqv, eqv_ints]
theorem eqv_tup (ns ms : List Int) : PyData.eqv (.tuple (dI ns)) (.tuple (dI ms)) = decide (ns = ms) := by rw [PyData.eqv, eqv_ints]
theorem eqv_lists : ∀ ns ms : List (List Int), PyData.eqvAll (dL ns) (dL ms) = decide (ns = ms)
  | [], [] => by simp [dL, PyData.eqvAll]
  | [], _ :: _ => by simp [dL, PyData.eqvAll]
  | _ :: _, [] => by simp [dL, PyData.eqvAll]
  | x :: xs, y :: ys => by
    show PyData.eqvAll (PyData.list (dI x) :: dL xs) (PyData.list (dI y) :: dL ys) = _
    rw [PyData.eqvAll, eqv_lists xs ys, eqv_list]
    by_cases e : x = y
    · subst e; by_cases e2 : xs = ys <;> simp [e2]
    · simp [e]
theorem dp_list {K : PySem.W.Frag} {H : Hp} {a : Addr} {ns : List Int} (h : SqL K H a (ns.map V.int)) : Dp K H (.ref a) (.list (dI ns)) := .lst h (dp_ints ns)
theorem dp_tup {K : PySem.W.Frag} {H : Hp} {a : Addr} {ns : List Int} (h : H a = some (.tup (ns.map V.int))) : Dp K H (.ref a) (.tuple (dI ns)) := .tup (SqT.of h) (dp_ints ns)
theorem dp_tl {K : PySem.W.Frag} {H : Hp} {a : Addr} {xs : List V} {ds : List (List Int)} (h : SqL K H a xs) (t : TL H xs ds) : Dp K H (.ref a) (.list (dT ds)) := .lst h (dp_tups t)
/-! ### the rules that speak of the written part, with its name -/
section
variable {X : Cx} {K : PySem.W.Frag}
theorem lenK (hK : X.K = K := by rfl) : CallR X (.builtin "len") (fun xs H Q => ∃ p ys, xs = [.ref p] ∧ (SqL K H p ys ∨ SqT K H p ys) ∧ Q (.int ys.length) H) := by subst hK; exact call_len_seq
theorem ixK (hK : X.K = K := by rfl) : IxR X (rIxL K) := by subst hK; exact ix_list
theorem ixTK (hK : X.K = K := by rfl) : IxR X (rIxT K) := by subst hK; exact ix_tup
theorem slK (hK : X.K = K := by rfl) : SlR X (rSlL K) := by subst hK; exact sl_list
theorem isiK (hK : X.K = K := by rfl) : CallR X (.builtin "isinstance") (rIsi K) := by subst hK; exact call_isi
theorem eqDK (hu : X.A.units + 64 < cLine) (hK : X.K = K := by rfl) : OpR X (compareOp .Eq) (rEqD K) := by subst hK; exact op_eqD hu
theorem neDK (hu : X.A.units + 64 < cLine) (hK : X.K = K := by rfl) : OpR X (compareOp .NotEq) (rNeD K) := by subst hK; exact op_neD hu
theorem inDK (hu : X.A.units + 65 < cLine) (hK : X.K = K := by rfl) : OpR X (compareOp .In) (rInD K) := by subst hK; exact op_inD hu
theorem notInDK (hu : X.A.units + 65 < cLine) (hK : X.K = K := by rfl) : OpR X (compareOp .NotIn) (rNotInD K) := by subst hK; exact op_notInD hu
theorem inSK (hK : X.K = K := by rfl) : OpR X (compareOp .In) (rIn K false) := by subst hK; exact op_in_seq
theorem notInSK (hK : X.K = K := by rfl) : OpR X (compareOp .NotIn) (rIn K true) := by subst hK; exact op_notIn_seq
theorem listK (hK : X.K = K := by rfl) : CallR X (.type "list") (fun xs H Q => ∃ p ys, xs = [.ref p] ∧ (SqL K H p ys ∨ SqT K H p ys) ∧ ∀ l, H l = none → Q (.ref l) (upd H l (.lst ys))) := by subst hK; exact call_list_of
theorem tupleK (hK : X.K = K := by rfl) : CallR X (.type "tuple") (fun xs H Q => ∃ p ys, xs = [.ref p] ∧ ((SqL K H p ys ∧ ∀ l, H l = none → Q (.ref l) (upd H l (.tup ys))) ∨ (SqT K H p ys ∧ Q (.ref p) H))) := by subst hK; exact call_tuple_of
theorem maxK (hc : X.calm = true) (hK : X.K = K := by rfl) : CallR X (.builtin "max") (rMax K) := by subst hK; exact cr_max hc
theorem indexK (hK : X.K = K := by rfl) : MtR X "list.index" (rIndex K) := by subst hK; exact mt_index
theorem sortedRevK (hK : X.K = K := by rfl) : CallRK X (.builtin "sorted") [Str.ofString "reverse"] (rSortedKw K true [.bl true]) := by subst hK; exact cr_sortedRev (b := true)
theorem pi_listK {tg l : Expr} {tl : TE} (hl : PE X l tl) (hK : X.K = K := by rfl) : PI X tg l (iList K tl) := by subst hK; exact pi_list hl
theorem pi_tupK {tg l : Expr} {tl : TE} (hl : PE X l tl) (hK : X.K = K := by rfl) : PI X tg l (iTup K tl) := by subst hK; exact pi_tup hl
theorem pi_enumK {e : Expr} {ta : TA} {p pos tpos : Pos} {elts : List Expr} {kk : Nat} (hg : Gl X "enumerate") (hm : X.mg "enumerate" = none) (ha : PA X [e] ta) (hs : starEach [e] X.env = [(false, eval e X.env)] := by rfl) (hK : X.K = K := by rfl) :
    PI X (.Tuple elts kk tpos) (.Call (.Name "enumerate" p) [e] [] pos) (iEnum K ta) := by subst hK; exact pi_enum hg hm ha hs
theorem pg_tupK {es : List Expr} {k : Nat} {t : TGs} {n : Nat} {pos : Pos} (hc : X.calm = true) (h : PGs X es t) (hn : (assignEach es X.env).length = n := by rfl) (hst : (assignEach es X.env).findIdx? (·.1) = none := by rfl) (hK : X.K = K := by rfl) :
    PG X (.Tuple es k pos) (gTup K n t) := by subst hK; exact pg_tup hc h hn hst
theorem pe_bmK {o e : Expr} {es : List Expr} {to : TE} {t : TA} {name : Str} {apos cpos : Pos} {T id : String} {r : V → List V → Hp → VK → Prop} (pa : PlainAttrs T) (slot : Slot T name id) (hty : typeOf (.builtin id) = pure (.type "method_descriptor")) (hm : MtR X id r) (ho : PE X o to) (ha : PA X (e :: es) t)
    (hbase : attributeBase o name X.env (eval o X.env) = eval o X.env := by rfl)
    (hfew : ((backTo cpos (starEach (e :: es) X.env)).all (fun x => !x.1) && (backToKw cpos (keywordEach [] X.env)).all (fun x => x.1.isSome)
      && decide ((e :: es).length + ([] : List Keyword).length + (if ([] : List Keyword).isEmpty then 0 else 1) < 30)) = true := by rfl)
    (hline : (apos.endLine == cpos.line) = true := by rfl) (hs : starEach (e :: es) X.env = (false, eval e X.env) :: starEach es X.env := by rfl) (hplain : (backTo cpos (starEach es X.env)).any (·.1) = false := by rfl) (hK : X.K = K := by rfl) : PE X (.Call (.Attribute o name apos) (e :: es) [] cpos) (tBM K T r to t) := by subst hK; exact pe_bm pa slot hty hm ho ha hbase hfew hline hs hplain
end
theorem hu65 {k : Nat} {A : Around} (hr : Room k A) : A.units + 65 < cLine := by
  have := hr.un
  omega
/-- the law's promise -/
def sp_law (K : PySem.W.Frag) : Sp := fun vs H Q _ => ∃ (a : Addr) (ns : List Int), vs = [.ref a] ∧ SqL K H a (ns.map V.int) ∧ ns.length ≤ 63 ∧ ∀ H', Q (.bl true) H'
/-! ### all bars -/
def allFrom : Nat → Nat → List (List Int)
  | 0, _ => [[]]
  | n + 1, m => [] :: (List.range m).flatMap fun i => (allFrom n (i + 1)).map fun t => ((i + 1 : Nat) : Int) :: t
theorem mem_allFrom : ∀ (n : Nat) (m : Nat) (b : List Int), falls (m : Int) b = true → b.length ≤ n → b ∈ allFrom n m
  | 0, m, b, _, h => by
    have : b = [] := List.length_eq_zero_iff.mp (by omega)
    subst this
    simp [allFrom]
  | n + 1, m, [], _, _ => by simp [allFrom]
  | n + 1, m, x :: xs, hf, hl => by
    rw [falls, Bool.and_eq_true, decide_eq_true_eq] at hf
    obtain ⟨⟨h1, h2⟩, h3⟩ := hf
    have e : x = (((x - 1).toNat + 1 : Nat) : Int) := by omega
    rw [allFrom]
    refine List.mem_cons_of_mem _ (List.mem_flatMap.mpr ⟨(x - 1).toNat, List.mem_range.mpr (by omega), List.mem_map.mpr ⟨xs, ?_, by rw [← e]⟩⟩)
    refine mem_allFrom n _ xs (by rw [← e]; exact h3) ?_
    rw [List.length_cons] at hl
    omega
/-- what a table of all bars shows -/
theorem all_bars {P : List Int → Bool} (h : (allFrom 5 5).all (fun b => b.isEmpty || P b) = true) {b : List Int} (hb : IsBar 5 b) : P b = true := by
  have h1 := isBarB_iff.mpr hb
  unfold isBarB at h1
  rw [Bool.and_eq_true, decide_eq_true_eq] at h1
  have h2 := List.all_eq_true.mp h b (mem_allFrom 5 5 b h1.2 h1.1.2)
  have h3 : b.isEmpty = false := by
    cases b with
    | nil => exact absurd h1.1.1 (by decide)
    | cons x xs => rfl
  rw [h3, Bool.false_or] at h2
  exact h2
/-! ### worths -/
def mexFrom (l : List Nat) : Nat → Nat → Nat
  | 0, m => m
  | k + 1, m => if m ∈ l then mexFrom l k (m + 1) else m
/-- the least number that is not in l -/
def mex (l : List Nat) : Nat := mexFrom l (l.sum + 1) 0
theorem le_sum_of_mem : ∀ {l : List Nat} {x : Nat}, x ∈ l → x ≤ l.sum
  | [], x, h => nomatch h
  | a :: l, x, h => by
    rw [List.sum_cons]
    rcases List.mem_cons.mp h with rfl | h
    · omega
    · have := le_sum_of_mem h
      omega
theorem mexFrom_spec (l : List Nat) : ∀ (k m : Nat), l.sum < m + k → (∀ j, j < m → j ∈ l) → mexFrom l k m ∉ l ∧ ∀ j, j < mexFrom l k m → j ∈ l
  | 0, m, h, hb => ⟨fun hm => by have := le_sum_of_mem (show m ∈ l from hm); omega, hb⟩
  | k + 1, m, h, hb => by
    rw [mexFrom]
    by_cases e : m ∈ l
    · rw [if_pos e]
      refine mexFrom_spec l k (m + 1) (by omega) fun j hj => ?_
      rcases Nat.lt_succ_iff_lt_or_eq.mp hj with hj | rfl
      · exact hb j hj
      · exact e
    · rw [if_neg e]
      exact ⟨e, hb⟩
theorem mex_spec (l : List Nat) : mex l ∉ l ∧ ∀ j, j < mex l → j ∈ l := mexFrom_spec l _ 0 (by omega) fun j hj => absurd hj (Nat.not_lt_zero j)
theorem mex_is {l : List Nat} {m : Nat} (h1 : m ∉ l) (h2 : ∀ j, j < m → j ∈ l) : mex l = m := by
  obtain ⟨k1, k2⟩ := mex_spec l
  rcases Nat.lt_trichotomy (mex l) m with h | h | h
  · exact absurd (h2 _ h) k1
  · exact h
  · exact absurd (k2 _ h) h1
theorem mex_congr {l l' : List Nat} (h : ∀ x, x ∈ l ↔ x ∈ l') : mex l = mex l' := mex_is (fun q => (mex_spec l').1 ((h _).mp q)) fun j hj => (h j).mpr ((mex_spec l').2 j hj)
/-- how many pieces a bar has -/
def pieces (b : List Int) : Nat := (b.map Int.toNat).sum
theorem pieces_append (a b : List Int) : pieces (a ++ b) = pieces a + pieces b := by
  unfold pieces
  rw [List.map_append, List.sum_append]
theorem pieces_cut (c : Nat) : ∀ b : List Int, pieces (b.map fun x => min x (c : Int)) ≤ pieces b
  | [] => Nat.le_refl _
  | x :: xs => by
    have := pieces_cut c xs
    unfold pieces at *
    rw [List.map_cons, List.map_cons, List.sum_cons, List.map_cons, List.sum_cons]
    omega
theorem pieces_less {b : List Int} {p : Nat × Nat} (h : p ∈ bitesL b) : pieces (behindL b p.1 p.2) < pieces b := by
  obtain ⟨x, hx, hc, _⟩ := mem_bitesL.mp h
  obtain ⟨hi, e⟩ := List.getElem?_eq_some_iff.mp hx
  have hd : b.drop p.1 = x :: b.drop (p.1 + 1) := by rw [List.drop_eq_getElem_cons hi, e]
  have hb : pieces b = pieces (b.take p.1) + pieces (b.drop p.1) := by rw [← pieces_append, List.take_append_drop]
  unfold behindL
  rw [pieces_append, hb]
  have hcut := pieces_cut p.2 (b.drop (p.1 + 1))
  have hl : pieces (if 0 < p.2 then (b.drop p.1).map fun x => min x (p.2 : Int) else []) < pieces (b.drop p.1) := by
    rw [hd]
    by_cases z : 0 < p.2
    · rw [if_pos z]
      unfold pieces at *
      rw [List.map_cons, List.map_cons, List.sum_cons, List.map_cons, List.sum_cons]
      omega
    · rw [if_neg z]
      unfold pieces
      rw [List.map_cons, List.sum_cons, List.map_nil, List.sum_nil]
      omega
  omega
theorem isBar_behind {m : Int} {b : List Int} (hb : IsBar m b) {p : Nat × Nat} (h : p ∈ bitesL b) : IsBar m (behindL b p.1 p.2) := by
  obtain ⟨x, hx, hc, hp⟩ := mem_bitesL.mp h
  obtain ⟨hi, e⟩ := List.getElem?_eq_some_iff.mp hx
  have hsub : ∀ y ∈ b.drop p.1, y ∈ b := fun y hy => List.mem_of_mem_drop hy
  have pw := hb.pw
  have ln : (behindL b p.1 p.2).length ≤ b.length ∧ 1 ≤ (behindL b p.1 p.2).length := by
    unfold behindL
    rw [List.length_append, List.length_take]
    by_cases z : 0 < p.2
    · rw [if_pos z, List.length_map, List.length_drop]
      omega
    · rw [if_neg z, List.length_nil]
      omega
  refine ⟨ln.2, Int.le_trans (Int.ofNat_le.mpr ln.1) hb.le, ?_, fun y hy => ?_⟩
  · unfold behindL
    refine List.pairwise_append.mpr ⟨pw.sublist (List.take_sublist _ _), ?_, ?_⟩
    · by_cases z : 0 < p.2
      · rw [if_pos z]
        refine List.pairwise_map.mpr ((pw.sublist (List.drop_sublist _ _)).imp fun {a c} h => ?_)
        show min a (p.2 : Int) ≥ min c (p.2 : Int)
        have h : a ≥ c := h
        omega
      · rw [if_neg z]
        exact List.Pairwise.nil
    · intro a ha c hc'
      by_cases z : 0 < p.2
      · rw [if_pos z] at hc'
        obtain ⟨y, hy, rfl⟩ := List.mem_map.mp hc'
        have := List.pairwise_append.mp (show (b.take p.1 ++ b.drop p.1).Pairwise (· ≥ ·) by rw [List.take_append_drop]; exact pw)
        have := this.2.2 a ha y hy
        show a ≥ min y (p.2 : Int)
        omega
      · rw [if_neg z] at hc'
        cases hc'
  · unfold behindL at hy
    rcases List.mem_append.mp hy with hy | hy
    · exact hb.rg y (List.mem_of_mem_take hy)
    · by_cases z : 0 < p.2
      · rw [if_pos z] at hy
        obtain ⟨u, hu, rfl⟩ := List.mem_map.mp hy
        have := hb.rg u (hsub u hu)
        omega
      · rw [if_neg z] at hy
        cases hy
theorem pieces_pos {m : Int} {b : List Int} (hb : IsBar m b) : 1 ≤ pieces b := by
  cases b with
  | nil => exact absurd hb.ne (by decide)
  | cons x xs =>
    have := hb.rg x List.mem_cons_self
    unfold pieces
    rw [List.map_cons, List.sum_cons]
    omega
theorem pieces_le : ∀ {b : List Int}, (∀ x ∈ b, x ≤ 5) → pieces b ≤ 5 * b.length
  | [], _ => Nat.zero_le _
  | x :: xs, h => by
    have h1 := pieces_le (b := xs) fun y hy => h y (List.mem_cons_of_mem _ hy)
    have h2 := h x List.mem_cons_self
    unfold pieces at *
    rw [List.map_cons, List.sum_cons, List.length_cons]
    omega
theorem pieces_25 {b : List Int} (hb : IsBar 5 b) : pieces b ≤ 25 := by
  have := pieces_le fun x hx => (hb.rg x hx).2
  have := hb.le
  omega
/-- a bar's worth, n turns deep -/
def wF : Nat → List Int → Nat
  | 0, _ => 0
  | n + 1, b => mex ((bitesL b).map fun p => wF n (behindL b p.1 p.2))
def worthL (b : List Int) : Nat := wF (pieces b) b
theorem bitesFrom_nil (r : Nat) : ∀ {b : List Int}, pieces b = 0 → bitesFrom r b = []
  | [], _ => rfl
  | x :: xs, h => by
    unfold pieces at h
    rw [List.map_cons, List.sum_cons] at h
    have h0 : x.toNat = 0 := by omega
    rw [bitesFrom, h0, rowL, List.nil_append]
    refine bitesFrom_nil (r + 1) ?_
    unfold pieces
    omega
theorem bitesL_nil {b : List Int} (h : pieces b = 0) : bitesL b = [] := bitesFrom_nil 0 h
theorem wF_any : ∀ (n : Nat) (b : List Int), pieces b ≤ n → wF n b = worthL b
  | 0, b, h => by
    have e : pieces b = 0 := by omega
    unfold worthL
    rw [e]
  | n + 1, b, h => by
    by_cases e : pieces b = 0
    · have h0 : worthL b = 0 := by
        unfold worthL
        rw [e]
        rfl
      rw [h0, wF, bitesL_nil e]
      rfl
    · obtain ⟨k, hk⟩ : ∃ k, pieces b = k + 1 := ⟨pieces b - 1, by omega⟩
      unfold worthL
      rw [hk, wF, wF]
      refine congrArg mex (List.map_congr_left fun p hp => ?_)
      have := pieces_less hp
      rw [wF_any n _ (by omega)]
      exact (wF_any k _ (by omega)).symm
  termination_by n => n
/-- POINT 6 -/
theorem worthL_eq (b : List Int) : worthL b = mex ((bitesL b).map fun p => worthL (behindL b p.1 p.2)) := by
  have h := wF_any (pieces b + 1) b (by omega)
  rw [← h, wF]
  refine congrArg mex (List.map_congr_left fun p hp => ?_)
  have := pieces_less hp
  exact wF_any _ _ (by omega)
theorem behindL_snoc (l : List Int) (x : Int) (r c : Nat) : behindL (l ++ [x]) r c = behindL l r c ++ if l.length < r then [x] else if 0 < c then [min x (c : Int)] else [] := by
  unfold behindL
  by_cases h : l.length < r
  · rw [if_pos h, List.take_of_length_le (by rw [List.length_append]; exact h), List.drop_eq_nil_of_le (by rw [List.length_append]; exact h), List.take_of_length_le (Nat.le_of_lt h), List.drop_eq_nil_of_le (Nat.le_of_lt h)]
    split <;> simp
  · have h' : r ≤ l.length := by omega
    rw [if_neg h, List.take_append_of_le_length h', List.drop_append_of_le_length h']
    split <;> simp
/-! ### lists without doubles -/
theorem length_le_of_sub {α : Type} [DecidableEq α] : ∀ {l m : List α}, l.Nodup → (∀ x ∈ l, x ∈ m) → l.length ≤ m.length
  | [], _, _, _ => Nat.zero_le _
  | x :: l, m, hn, hs => by
    obtain ⟨h1, h2⟩ := List.nodup_cons.mp hn
    have hx := hs x List.mem_cons_self
    have := length_le_of_sub (l := l) (m := m.erase x) h2 fun y hy => (List.mem_erase_of_ne (fun e => h1 (by rw [← e]; exact hy))).mpr (hs y (List.mem_cons_of_mem _ hy))
    have e := List.length_erase_of_mem hx
    have : 1 ≤ m.length := by
      cases m with
      | nil => cases hx
      | cons _ _ => simp
    rw [List.length_cons]
    omega
/-! ### the dict of the worths that are known -/
def keyOf (b : List Int) : List Key := b.map Sum.inl
theorem keyOf_kV (b : List Int) : (keyOf b).map kV = b.map V.int := by
  unfold keyOf
  rw [List.map_map]
  all_goals rfl
theorem keyOf_inj : ∀ {a b : List Int}, keyOf a = keyOf b → a = b
  | [], [], _ => rfl
  | [], _ :: _, h => by cases h
  | _ :: _, [], h => by cases h
  | x :: xs, y :: ys, h => by
    have h : (Sum.inl x : Key) :: keyOf xs = Sum.inl y :: keyOf ys := h
    injection h with h1 h2
    rw [Sum.inl.inj h1, keyOf_inj h2]
structure Known (kvs : List (List Key × V)) : Prop where
  nd : (kvs.map (·.1)).Nodup
  is : ∀ p ∈ kvs, ∃ b : List Int, p.1 = keyOf b ∧ IsBar 5 b ∧ p.2 = .int (worthL b : Nat)
theorem Known.nil : Known [] := ⟨List.nodup_nil, fun _ h => nomatch h⟩
theorem mem_all {b : List Int} (h : IsBar 5 b) : b ∈ allFrom 5 5 := by
  have h1 := isBarB_iff.mpr h
  unfold isBarB at h1
  rw [Bool.and_eq_true, decide_eq_true_eq] at h1
  exact mem_allFrom 5 5 b h1.2 h1.1.2
theorem all_len : (allFrom 5 5).length = 252 := by decide +kernel
theorem Known.len {kvs : List (List Key × V)} (h : Known kvs) : kvs.length ≤ 252 := by
  have q := length_le_of_sub (m := (allFrom 5 5).map keyOf) h.nd fun x hx => by
    obtain ⟨p, hp, rfl⟩ := List.mem_map.mp hx
    obtain ⟨b, e, hb, _⟩ := h.is p hp
    rw [e]
    exact List.mem_map_of_mem (mem_all hb)
  rw [List.length_map, List.length_map, all_len] at q
  exact q
theorem valV_mem {κ : Type} [DecidableEq κ] {kvs : List (κ × V)} {k : κ} {v : V} (h : valV kvs k = some v) : (k, v) ∈ kvs := by
  unfold valV at h
  cases e : kvs.find? fun kv => decide (kv.1 = k) with
  | none =>
    rw [e] at h
    cases h
  | some p =>
    rw [e] at h
    have h1 : p.1 = k := of_decide_eq_true (List.find?_some (p := fun kv : κ × V => decide (kv.1 = k)) e)
    have h2 : p.2 = v := Option.some.inj h
    rw [← h1, ← h2]
    exact List.mem_of_find?_eq_some e
theorem Known.get {kvs : List (List Key × V)} (h : Known kvs) {b : List Int} {v : V} (e : valV kvs (keyOf b) = some v) : v = .int (worthL b : Nat) := by
  obtain ⟨c, h1, _, h2⟩ := h.is _ (valV_mem e)
  have h1 : keyOf b = keyOf c := h1
  have h2 : v = .int (worthL c : Nat) := h2
  rw [keyOf_inj h1]
  exact h2
theorem Known.put {kvs : List (List Key × V)} (h : Known kvs) {b : List Int} (hb : IsBar 5 b) (e : valV kvs (keyOf b) = none) : Known (putK kvs (keyOf b) (.int (worthL b : Nat))) := by
  refine ⟨nd_putK _ h.nd e, fun p hp => ?_⟩
  rw [putK_new _ e] at hp
  rcases List.mem_append.mp hp with hp | hp
  · exact h.is p hp
  · have := List.mem_singleton.mp hp
    subst this
    exact ⟨b, rfl, hb, rfl⟩
theorem Known.again {kvs : List (List Key × V)} (h : Known kvs) {b : List Int} {v : V} (e : valV kvs (keyOf b) = some v) : Known (putK kvs (keyOf b) (.int (worthL b : Nat))) := by
  have hm : (kvs.any fun kv => decide (kv.1 = keyOf b)) = true := by
    rw [valV_any, e]
    rfl
  unfold putK
  rw [if_pos hm]
  have e1 : (kvs.map fun kv => if kv.1 = keyOf b then (kv.1, V.int (worthL b : Nat)) else kv) = kvs := by
    refine (List.map_congr_left fun p hp => ?_).trans (List.map_id _)
    by_cases z : p.1 = keyOf b
    · rw [if_pos z]
      obtain ⟨c, h1, _, h2⟩ := h.is p hp
      have := keyOf_inj (z.symm.trans h1)
      subst this
      rw [← h2]
      all_goals rfl
    · rw [if_neg z]
      all_goals rfl
  rw [e1]
  exact h
/-! ### the dict of the worths that are seen -/
structure Seen (kvs : List (Key × V)) (l : List Nat) : Prop where
  len : kvs.length ≤ l.length
  is : ∀ m : Nat, (valV kvs (.inl (m : Int))).isSome = decide (m ∈ l)
theorem Seen.nil : Seen [] [] := ⟨Nat.le_refl _, fun m => by rw [valV_nil]; rfl⟩
theorem putK_len {κ : Type} [DecidableEq κ] (kvs : List (κ × V)) (k : κ) (v : V) : (putK kvs k v).length ≤ kvs.length + 1 := by
  unfold putK
  split
  · rw [List.length_map]; omega
  · rw [List.length_append]; exact Nat.le_refl _
theorem Seen.put {kvs : List (Key × V)} {l : List Nat} (h : Seen kvs l) (x : Nat) (v : V) : Seen (putK kvs (.inl (x : Int)) v) (l ++ [x]) := by
  refine ⟨?_, fun m => ?_⟩
  · have := putK_len kvs (.inl (x : Int)) v
    have := h.len
    rw [List.length_append, List.length_singleton]
    omega
  · rw [valV_put]
    by_cases e : m = x
    · subst e
      rw [if_pos rfl]
      simp
    · rw [if_neg (fun z => e (by have := Sum.inl.inj z; omega)), h.is m]
      simp [e]
/-! ### all but what stands at d is kept -/
def But (d : Addr) (H H' : Hp) : Prop := ∀ b o, b ≠ d → H b = some o → H' b = some o
theorem But.same {d : Addr} {H H' : Hp} (s : Same H H') : But d H H' := fun b o _ h => s b o h
theorem But.trans {d : Addr} {H H1 H2 : Hp} (a : But d H H1) (b : But d H1 H2) : But d H H2 := fun c o n h => b c o n (a c o n h)
theorem But.at {d : Addr} {H : Hp} {o : HO} : But d H (upd H d o) := fun b u n h => by
  rw [upd_ne n]
  exact h
theorem But.put {d p : Addr} {H0 H : Hp} {o : HO} (s : But d H0 H) (h : H0 p = none) : But d H0 (upd H p o) := fun b x n e => by
  rw [upd_ne (ne_of_none e h)]
  exact s b x n e
theorem But.kt {d : Addr} {H H' : Hp} {kvs : List (List Key × V)} (s : But d H H') (h : H d = some (.dT kvs)) : KT H H' := fun t xs e =>
  s t _ (ne_of e h (by intro q; cases q)) e
theorem But.seq {K : PySem.W.Frag} {d a : Addr} {H H' : Hp} {kvs : List (List Key × V)} {xs : List V} (s : But d H H') (h : H d = some (.dT kvs)) (hs : SqL K H a xs) : SqL K H' a xs := by
  rcases hs with (hs | ⟨o, hs⟩) | hs
  · exact .inl (.inl (s _ _ (ne_of hs h (by intro q; cases q)) hs))
  · exact .inl (.inr ⟨o, s _ _ (ne_of hs h (by intro q; cases q)) hs⟩)
  · exact .inr hs
theorem TL.at' {H : Hp} : ∀ {xs : List V} {ds : List (List Int)} {i : Nat} {x : V}, TL H xs ds → xs[i]? = some x → ∃ t d, ds[i]? = some d ∧ x = .ref t ∧ H t = some (.tup (d.map V.int))
  | _, _, i, x, Paired.nil, e => by simp at e
  | _, _, 0, x, Paired.cons ⟨t, h1, h2⟩ _, e => by
    obtain rfl := Option.some.inj e
    exact ⟨t, _, rfl, h1, h2⟩
  | _, _, i + 1, x, Paired.cons _ r, e => by
    obtain ⟨t, d, h1, h2, h3⟩ := TL.at' (i := i) r (by simpa using e)
    exact ⟨t, d, by simpa using h1, h2, h3⟩
theorem TL.bite {H : Hp} {xs : List V} {ps : List (Nat × Nat)} {i : Nat} {x : V} (h : TL H xs (ps.map pr)) (e : xs[i]? = some x) :
    ∃ t p, ps[i]? = some p ∧ x = .ref t ∧ H t = some (.tup [.int (p.1 : Nat), .int (p.2 : Nat)]) := by
  obtain ⟨t, d, h1, h2, h3⟩ := TL.at' h e
  rw [List.getElem?_map] at h1
  cases e2 : ps[i]? with
  | none =>
    rw [e2] at h1
    cases h1
  | some p =>
    rw [e2] at h1
    have : pr p = d := Option.some.inj h1
    subst this
    exact ⟨t, p, rfl, h2, h3⟩
/-- the worths behind the bites -/
def wB (b : List Int) (p : Nat × Nat) : Nat := worthL (behindL b p.1 p.2)
theorem worth_mex (b : List Int) : worthL b = mex ((bitesL b).map (wB b)) := worthL_eq b
/-! ### numbers in a list -/
abbrev vN (l : List Nat) : List V := l.map fun m => V.int (m : Nat)
theorem inV_nat (m : Nat) : ∀ l : List Nat, inV (.int (m : Nat)) (vN l) = decide (m ∈ l)
  | [] => rfl
  | x :: l => by
    have ih := inV_nat m l
    unfold inV at *
    rw [vN, List.map_cons, List.any_cons, ih]
    by_cases e : m = x
    · subst e
      simp [eqV]
    · have : ((x : Int) == (m : Int)) = false := beq_eq_false_iff_ne.mpr fun z => e (by omega)
      simp [eqV, this, e]
theorem flat_nat : ∀ l : List Nat, (vN l).all flatV = true
  | [] => rfl
  | _ :: l => by
    rw [vN, List.map_cons, List.all_cons, flat_nat l]
    rfl
/-! ### adding by figures of two without carrying -/
theorem xor_odd (a b : Nat) : (a ^^^ b) % 2 = (a + b) % 2 := by
  have h : (a ^^^ b) % 2 = ((a % 2) ^^^ (b % 2)) % 2 := by
    have h1 : ((a ^^^ b) % 2 ^ 1) = (a % 2 ^ 1) ^^^ (b % 2 ^ 1) := Nat.xor_mod_two_pow
    have h2 : ((a % 2 ^ 1) ^^^ (b % 2 ^ 1)) < 2 ^ 1 := Nat.xor_lt_two_pow (Nat.mod_lt _ (by decide)) (Nat.mod_lt _ (by decide))
    rw [show (2 : Nat) = 2 ^ 1 from rfl, h1]
    exact (Nat.mod_eq_of_lt h2).symm
  rw [h]
  rcases Nat.mod_two_eq_zero_or_one a with ha | ha <;> rcases Nat.mod_two_eq_zero_or_one b with hb | hb <;> rw [ha, hb] <;> first | (show (0 : Nat) = _; omega) | (show (1 : Nat) = _; omega)
theorem xor_step (a b : Nat) : a ^^^ b = (if a % 2 = b % 2 then 0 else 1) + 2 * ((a / 2) ^^^ (b / 2)) := by
  have h1 : (a ^^^ b) / 2 = a / 2 ^^^ b / 2 := Nat.xor_div_two
  have h2 := xor_odd a b
  rw [← h1]
  split <;> omega
theorem xor_shift (a b j : Nat) : (a ^^^ b) / 2 ^ j = (a / 2 ^ j) ^^^ (b / 2 ^ j) := by
  rw [← Nat.shiftRight_eq_div_pow, ← Nat.shiftRight_eq_div_pow, ← Nat.shiftRight_eq_div_pow, Nat.shiftRight_xor_distrib]
/-- how many of ws have the figure f -/
def cntBit (ws : List Nat) (f : Nat) : Nat := (ws.filter fun x => decide (x / f % 2 = 1)).length
def xorL (ws : List Nat) : Nat := ws.foldr (· ^^^ ·) 0
theorem xorL_bit (j : Nat) : ∀ ws : List Nat, xorL ws / 2 ^ j % 2 = cntBit ws (2 ^ j) % 2
  | [] => by
    show 0 / 2 ^ j % 2 = 0 % 2
    rw [Nat.zero_div]
  | x :: ws => by
    have ih := xorL_bit j ws
    show (x ^^^ xorL ws) / 2 ^ j % 2 = _
    rw [xor_shift, xor_odd]
    unfold cntBit at *
    rw [List.filter_cons]
    by_cases h : x / 2 ^ j % 2 = 1
    · rw [if_pos (decide_eq_true h), List.length_cons]
      omega
    · rw [if_neg (by rw [decide_eq_false h]; exact Bool.false_ne_true)]
      omega
theorem xorL_lt : ∀ {ws : List Nat}, (∀ x ∈ ws, x < 128) → xorL ws < 128
  | [], _ => by decide
  | x :: ws, h => by
    have h1 := h x List.mem_cons_self
    have h2 := xorL_lt fun y hy => h y (List.mem_cons_of_mem _ hy)
    exact Nat.xor_lt_two_pow (n := 7) h1 h2
def figs : List Nat := [1, 2, 4, 8, 16, 32, 64]
def addF (ws fs : List Nat) : Nat := (fs.map fun f => f * (cntBit ws f % 2)).sum
theorem addF_more {ws fs : List Nat} {i f : Nat} (h : fs[i]? = some f) : addF ws (fs.take (i + 1)) = addF ws (fs.take i) + f * (cntBit ws f % 2) := by
  unfold addF
  rw [take_more h, List.map_append, List.sum_append]
  simp
theorem addF_all {ws : List Nat} (h : ∀ x ∈ ws, x < 128) : addF ws figs = xorL ws := by
  have h0 := xorL_bit 0 ws
  have h1 := xorL_bit 1 ws
  have h2 := xorL_bit 2 ws
  have h3 := xorL_bit 3 ws
  have h4 := xorL_bit 4 ws
  have h5 := xorL_bit 5 ws
  have h6 := xorL_bit 6 ws
  have hl := xorL_lt h
  have e : addF ws figs = 1 * (cntBit ws (2 ^ 0) % 2) + (2 * (cntBit ws (2 ^ 1) % 2) + (4 * (cntBit ws (2 ^ 2) % 2) + (8 * (cntBit ws (2 ^ 3) % 2) + (16 * (cntBit ws (2 ^ 4) % 2) + (32 * (cntBit ws (2 ^ 5) % 2) + (64 * (cntBit ws (2 ^ 6) % 2) + 0)))))) := rfl
  rw [e, ← h0, ← h1, ← h2, ← h3, ← h4, ← h5, ← h6]
  generalize xorL ws = n at hl
  omega
/-! ### tables: lists of lists of ints -/
abbrev LL (H : Hp) (xs : List V) (ds : List (List Int)) : Prop := Paired (fun (x : V) (d : List Int) => ∃ t, x = .ref t ∧ H t = some (.lst (d.map V.int))) xs ds
theorem LL.keep {H H' : Hp} (k : ∀ t xs, H t = some (.lst xs) → H' t = some (.lst xs)) {xs : List V} {ds : List (List Int)} (h : LL H xs ds) : LL H' xs ds :=
  Paired.mapP h fun _ _ ⟨t, e, z⟩ => ⟨t, e, k _ _ z⟩
theorem LL.keepM {H H' : Hp} : ∀ {xs : List V} {ds : List (List Int)}, LL H xs ds → (∀ t l, V.ref t ∈ xs → H t = some (.lst l) → H' t = some (.lst l)) → LL H' xs ds
  | _, _, Paired.nil, _ => Paired.nil
  | _, _, Paired.cons ⟨t, e, h⟩ r, k => Paired.cons ⟨t, e, k t _ (by rw [e]; exact List.mem_cons_self) h⟩ (LL.keepM r fun u l hu => k u l (List.mem_cons_of_mem _ hu))
theorem LL.same {H H' : Hp} (s : Same H H') {xs : List V} {ds : List (List Int)} (h : LL H xs ds) : LL H' xs ds := LL.keep (fun t xs e => s _ _ e) h
theorem LL.but {H H' : Hp} {d : Addr} {kvs : List (List Key × V)} (s : But d H H') (hd : H d = some (.dT kvs)) {xs : List V} {ds : List (List Int)} (h : LL H xs ds) : LL H' xs ds :=
  LL.keep (fun t xs e => s _ _ (ne_of e hd (by intro z; cases z)) e) h
theorem LL.length {H : Hp} {xs : List V} {ds : List (List Int)} (h : LL H xs ds) : xs.length = ds.length := Paired.length h
theorem LL.snoc {H : Hp} : ∀ {xs : List V} {ds : List (List Int)} {t : Addr} {d : List Int}, LL H xs ds → H t = some (.lst (d.map V.int)) → LL H (xs ++ [.ref t]) (ds ++ [d])
  | _, _, t, d, Paired.nil, e => Paired.cons ⟨t, rfl, e⟩ Paired.nil
  | _, _, t, d, Paired.cons r h, e => Paired.cons r (LL.snoc h e)
theorem LL.at {H : Hp} : ∀ {xs : List V} {ds : List (List Int)} {i : Nat} {x : V}, LL H xs ds → xs[i]? = some x → ∃ t d, ds[i]? = some d ∧ x = .ref t ∧ H t = some (.lst (d.map V.int))
  | _, _, i, x, Paired.nil, e => by simp at e
  | _, _, 0, x, Paired.cons ⟨t, h1, h2⟩ _, e => by
    obtain rfl := Option.some.inj e
    exact ⟨t, _, rfl, h1, h2⟩
  | _, _, i + 1, x, Paired.cons _ r, e => by
    obtain ⟨t, d, h1, h2, h3⟩ := LL.at (i := i) r (by simpa using e)
    exact ⟨t, d, by simpa using h1, h2, h3⟩
theorem LL.get {H : Hp} : ∀ {xs : List V} {ds : List (List Int)} {i : Nat} {d : List Int}, LL H xs ds → ds[i]? = some d → ∃ t, xs[i]? = some (.ref t) ∧ H t = some (.lst (d.map V.int))
  | _, _, i, d, Paired.nil, e => by simp at e
  | _, _, 0, d, Paired.cons ⟨t, h1, h2⟩ _, e => by
    obtain rfl := Option.some.inj e
    exact ⟨t, by rw [h1]; rfl, h2⟩
  | _, _, i + 1, d, Paired.cons _ r, e => by
    obtain ⟨t, h1, h2⟩ := LL.get (i := i) r (by simpa using e)
    exact ⟨t, by simpa using h1, h2⟩
theorem dp_lls {K : PySem.W.Frag} {H : Hp} : ∀ {xs : List V} {ds : List (List Int)}, LL H xs ds → DpAll K H xs (dL ds)
  | _, _, Paired.nil => .nil
  | _, _, Paired.cons ⟨t, e, h⟩ r => by
    subst e
    exact .cons (.lst (SqL.of h) (dp_ints _)) (dp_lls r)
theorem dp_table {K : PySem.W.Frag} {H : Hp} {a : Addr} {xs : List V} {ds : List (List Int)} (h : SqL K H a xs) (t : LL H xs ds) : Dp K H (.ref a) (.list (dL ds)) := .lst h (dp_lls t)
theorem eqv_table (ns ms : List (List Int)) : PyData.eqv (.list (dL ns)) (.list (dL ms)) = decide (ns = ms) := by rw [PyData.eqv, eqv_lists]
/-- a table: at most three bars -/
structure IsTable (ds : List (List Int)) : Prop where
  le : ds.length ≤ 3
  is : ∀ d ∈ ds, IsBar 5 d
/-- all of these lists are new -/
def NewL (H : Hp) (xs : List V) : Prop := ∀ x ∈ xs, ∀ t, x = V.ref t → H t = none
/-- [list(bar) for bar in table], the table at T, the block's own name in slot j, the new list at D -/
theorem copy_loop {K : PySem.W.Frag} {σ : L2.St} {H : Hp} {Qd : Hp → Prop} {j : Nat} {T D : Addr} {xs : List V} {ds : List (List Int)} (hj : j < σ.length) (hT : SqL K H T xs) (ll : LL H xs ds) (hl : xs.length ≤ 1000) (nD : H D = none)
    (q : ∀ H' ys, Same H H' → H' D = some (.lst ys) → LL H' ys ds → NewL H ys → Qd H') :
    ∃ W : Nat → Nat → Hp → Prop, (∃ m, W 0 m (upd H D (.lst []))) ∧ ∀ i m H, W i m H →
      ((Itl K T).stop i H ∧ Qd H) ∨ ((Itl K T).go i H ∧ ∃ Nx : Hp → Prop, (∀ H', Nx H' → ∃ m', m' < m ∧ W (i + 1) m' H') ∧ ∀ x H', (Itl K T).yld i H x H' → (gName j) x (wipe σ [j]) H' fun σ2 H2 => wipe σ2 [j] = wipe σ [j] ∧ tYes σ2 H2 fun b H3 =>
        if b = true then (tCB (fun xs H Q => ∃ p ys, xs = [V.ref p] ∧ (SqL K H p ys ∨ SqT K H p ys) ∧ ∀ l, H l = none → Q (V.ref l) (upd H l (.lst ys))) (tCons (tVar j) tNil)) σ2 H3 fun y H4 => ∃ acc, H4 D = some (.lst acc) ∧ acc.length < sizeLine ∧ Nx (upd H4 D (.lst (acc ++ [y]))) else Nx H3) := by
  refine lc_list (K := K) (a := T) (xs := xs) (fun n H' => ∃ ys : List V, Same H H' ∧ H' D = some (.lst ys) ∧ LL H' ys (ds.take n) ∧ NewL H ys ∧ ys.length = n ∧ V.ref D ∉ ys) ⟨[], sNew nD, upd_same, Paired.nil, fun x hx => (nomatch hx), rfl, by simp⟩ (fun n H' _ ⟨_, s, _⟩ => s.seq hT) ?_ ?_
  · rintro n x H1 hn ⟨ys, s1, hD, ly, ny, el, nm⟩
    obtain ⟨t, d, hd, rfl, ht⟩ := ll.at hn
    refine ⟨?_, yesT ?_⟩
    · show wipe ((wipe σ [j]).set j _) [j] = wipe σ [j]
      show ((σ.set j none).set j _).set j none = σ.set j none
      rw [List.set_set, List.set_set]
    have hw : ((wipe σ [j]).set j (some (V.ref t)))[j]? = some (some (V.ref t)) := by
      rw [List.getElem?_set_self (by show j < (σ.set j none).length; rw [List.length_set]; exact hj)]
    refine ⟨_, hw, t, _, rfl, .inl (SqL.of (s1 _ _ ht)), fun l nl => ?_⟩
    have Dl : D ≠ l := ne_of_none hD nl
    have hn' : n < xs.length := (List.getElem?_eq_some_iff.mp hn).1
    refine ⟨ys, by rw [upd_ne Dl]; exact hD, small' (by omega), ys ++ [.ref l], sPut (sThen s1 nl) nD, upd_same, ?_, ?_, by rw [List.length_append, el]; rfl, fun z => ?_⟩
    · rw [take_more hd]
      refine LL.snoc (LL.keepM ly fun c cs hm e => ?_) (by rw [upd_ne Dl.symm, upd_same])
      have h1 : c ≠ D := fun z => nm (by rw [← z]; exact hm)
      rw [upd_ne h1, upd_ne (ne_of_none e nl)]
      exact e
    · intro y hy u e
      rcases List.mem_append.mp hy with h | h
      · exact ny y h u e
      · have := List.mem_singleton.mp h
        rw [this] at e
        have : l = u := V.ref.inj e
        rw [← this]
        exact s1.free nl
    · rcases List.mem_append.mp z with h | h
      · exact nm h
      · exact Dl (V.ref.inj (List.mem_singleton.mp h))
  · rintro H1 ⟨ys, s1, hD, ly, ny, el, nm⟩
    rw [ll.length, List.take_length] at ly
    exact q H1 ys s1 hD ly ny
/-- the worths of a table's bars -/
def worthsL (ds : List (List Int)) : List Nat := ds.map worthL
theorem worth_le {b : List Int} (h : IsBar 5 b) : worthL b ≤ 25 := by
  have hw := mex_spec ((bitesL b).map (wB b))
  rw [← worth_mex] at hw
  have h1 := length_le_of_sub (l := List.range (worthL b)) (m := (bitesL b).map (wB b)) List.nodup_range fun x hx => hw.2 x (List.mem_range.mp hx)
  have h2 := bitesL_len h
  rw [List.length_range, List.length_map] at h1
  omega
theorem worths_lt {ds : List (List Int)} (h : ∀ d ∈ ds, IsBar 5 d) : ∀ x ∈ worthsL ds, x < 128 := fun x hx => by
  obtain ⟨d, hd, rfl⟩ := List.mem_map.mp hx
  have := worth_le (h d hd)
  omega
theorem xorL_snoc (x : Nat) : ∀ l : List Nat, xorL (l ++ [x]) = xorL l ^^^ x
  | [] => by
    show x ^^^ 0 = 0 ^^^ x
    rw [Nat.xor_comm]
  | y :: l => by
    show y ^^^ xorL (l ++ [x]) = (y ^^^ xorL l) ^^^ x
    rw [xorL_snoc x l, Nat.xor_assoc]
/-! ### notes -/
open TL in
/-- a bar's word -/
def codesW (d : List Int) : List Nat := d.map fun x => 48 + x.toNat
def wordS (d : List Int) : Str := ⟨(codesW d).toArray⟩
def blank : Str := Str.ofString " "
def noteS (ds : List (List Int)) : Str := Txt.join blank (ds.map wordS)
theorem tl_wordS (d : List Int) : TL.tl (wordS d) = codesW d := rfl
theorem tl_blank : TL.tl blank = [32] := by decide +kernel
theorem str_digit {x : Int} (h1 : 1 ≤ x) (h5 : x ≤ 5) : Str.ofString (toString x) = ⟨#[48 + x.toNat]⟩ := by
  rcases (by omega : x = 1 ∨ x = 2 ∨ x = 3 ∨ x = 4 ∨ x = 5) with rfl | rfl | rfl | rfl | rfl <;> decide +kernel
theorem fig_at {x : Int} (h1 : 1 ≤ x) (h5 : x ≤ 5) : Builtin.Str.occurrences (Str.ofString "12345") ⟨#[48 + x.toNat]⟩ 0 (Str.ofString "12345").length 1 = (x.toNat - 1) :: [] ∧ (48 + x.toNat) ∈ (Str.ofString "12345").cps.toList ∧ atI (Str.ofString "012345").cps.toList x = some (48 + x.toNat) := by
  rcases (by omega : x = 1 ∨ x = 2 ∨ x = 3 ∨ x = 4 ∨ x = 5) with rfl | rfl | rfl | rfl | rfl <;> exact ⟨by decide +kernel, by decide +kernel, by decide +kernel⟩
theorem joinL_nil : ∀ l : List (List Nat), TL.joinL [] l = l.flatten
  | [] => rfl
  | [x] => by
    show x = x ++ []
    rw [List.append_nil]
  | x :: y :: r => by
    show x ++ ([] ++ TL.joinL [] (y :: r)) = x ++ (y :: r).flatten
    rw [List.nil_append, joinL_nil (y :: r)]
theorem join_word (d : List Int) : Txt.join (Str.ofString "") (d.map fun x => (⟨#[48 + x.toNat]⟩ : Str)) = wordS d := by
  refine TL.ext_tl ?_
  rw [TL.join_eq, TL.tl_join, show TL.tl (Str.ofString "") = [] from by decide +kernel, joinL_nil, tl_wordS, List.map_map]
  unfold codesW
  induction d with
  | nil => rfl
  | cons x d ih =>
    rw [List.map_cons, List.map_cons, List.flatten_cons, ih]
    rfl
theorem joinL_snoc (s : List Nat) (x : List Nat) : ∀ {l : List (List Nat)}, l ≠ [] → TL.joinL s (l ++ [x]) = TL.joinL s l ++ (s ++ x)
  | [], h => absurd rfl h
  | [y], _ => rfl
  | y :: z :: r, _ => by
    have ih := joinL_snoc s x (l := z :: r) (by simp)
    show y ++ (s ++ TL.joinL s ((z :: r) ++ [x])) = (y ++ (s ++ TL.joinL s (z :: r))) ++ (s ++ x)
    rw [ih]
    simp only [List.append_assoc]
theorem tl_noteS (ds : List (List Int)) : TL.tl (noteS ds) = TL.joinL [32] (ds.map codesW) := by
  unfold noteS
  rw [TL.join_eq, TL.tl_join, tl_blank, List.map_map]
  rfl
theorem note_snoc (l : List (List Int)) (d : List Int) : noteS (l ++ [d]) = if l = [] then wordS d else noteS l ++ blank ++ wordS d := by
  refine TL.ext_tl ?_
  by_cases h : l = []
  · subst h
    rw [if_pos rfl, tl_noteS, tl_wordS]
    rfl
  · rw [if_neg h, tl_noteS, TL.tl_append, TL.tl_append, tl_noteS, tl_blank, tl_wordS, List.map_append, List.map_singleton, joinL_snoc _ _ (by simpa using h), List.append_assoc]
theorem noteS_nil : noteS [] = Str.ofString "" := by decide +kernel
theorem codes_no {d : List Int} (h : ∀ x ∈ d, 1 ≤ x ∧ x ≤ 5) : (32 : Nat) ∉ codesW d := fun hm => by
  obtain ⟨x, hx, e⟩ := List.mem_map.mp hm
  have := h x hx
  omega
theorem note_split {ds : List (List Int)} (hne : ds ≠ []) (h : ∀ d ∈ ds, IsBar 5 d) : Txt.split (noteS ds) blank = ds.map wordS := by
  unfold noteS
  refine TL.split_join (s := 32) (S := []) tl_blank (by decide +kernel) (by simpa using hne) fun p hp => ?_
  obtain ⟨d, hd, rfl⟩ := List.mem_map.mp hp
  rw [tl_wordS]
  exact codes_no (h d hd).rg
theorem wordS_len (d : List Int) : (wordS d).length = d.length := by
  rw [TL.len_tl, tl_wordS]
  exact List.length_map _
theorem joinL_len (s : List Nat) (m : Nat) : ∀ {l : List (List Nat)}, (∀ x ∈ l, x.length ≤ m) → (TL.joinL s l).length ≤ (m + s.length) * l.length
  | [], _ => Nat.zero_le _
  | [x], h => by
    have := h x List.mem_cons_self
    show x.length ≤ (m + s.length) * 1
    omega
  | x :: y :: r, h => by
    have h1 := h x List.mem_cons_self
    have h2 := joinL_len s m (l := y :: r) fun z hz => h z (List.mem_cons_of_mem _ hz)
    show (x ++ (s ++ TL.joinL s (y :: r))).length ≤ _
    rw [List.length_append, List.length_append, List.length_cons, Nat.mul_succ]
    omega
theorem note_len {ds : List (List Int)} (h3 : ds.length ≤ 3) (h : ∀ d ∈ ds, IsBar 5 d) : (noteS ds).length ≤ 18 := by
  rw [TL.len_tl, tl_noteS]
  have := joinL_len [32] 5 (l := ds.map codesW) fun x hx => by
    obtain ⟨d, hd, rfl⟩ := List.mem_map.mp hx
    have := (h d hd).le
    unfold codesW
    rw [List.length_map]
    omega
  rw [List.length_map] at this
  show _ ≤ _
  have e : ([32] : List Nat).length = 1 := rfl
  rw [e] at this
  omega
theorem note_ne {ds : List (List Int)} (hne : ds ≠ []) (h : ∀ d ∈ ds, IsBar 5 d) : noteS ds ≠ Str.ofString "" := fun e => by
  have e1 := congrArg TL.tl e
  rw [tl_noteS, show TL.tl (Str.ofString "") = [] from by decide +kernel] at e1
  cases ds with
  | nil => exact hne rfl
  | cons d r =>
    have hd := (h d List.mem_cons_self).ne
    cases d with
    | nil => exact absurd hd (by decide)
    | cons x d =>
      cases r with
      | nil => cases e1
      | cons _ _ => cases e1
/-! ### over a text's signs -/
theorem for_str {x : Str} {g : TG} {tb : TS} {D : Ends} {σ : L2.St} {H : Hp} (Pv : Nat → L2.St → Hp → Prop) (h0 : Pv 0 σ H)
    (hs : ∀ i c σ H, (TL.tl x)[i]? = some c → Pv i σ H → g (.str ⟨#[c]⟩) σ H fun σ2 H2 => tb { D with nx := Pv (i + 1), ct := Pv (i + 1), bk := D.nx } σ2 H2) (hd : ∀ σ H, Pv (TL.tl x).length σ H → D.nx σ H) :
    ∃ W : Nat → Nat → L2.St → Hp → Prop, (∃ m, W 0 m σ H) ∧ ∀ i m σ H, W i m σ H →
      ((Its x).stop i H ∧ D.nx σ H) ∨ ((Its x).go i H ∧ ∃ N : L2.St → Hp → Prop, (∀ σ' H', N σ' H' → ∃ m', m' < m ∧ W (i + 1) m' σ' H') ∧ ∀ v H', (Its x).yld i H v H' → g v σ H' fun σ2 H2 => tb { D with nx := N, ct := N, bk := D.nx } σ2 H2) := by
  have hsz : x.cps.size = (TL.tl x).length := by simp [TL.tl]
  refine ⟨fun i m σ H => m = (TL.tl x).length - i ∧ i ≤ (TL.tl x).length ∧ Pv i σ H, ⟨(TL.tl x).length, by simp, Nat.zero_le _, h0⟩, ?_⟩
  rintro i m σ H ⟨rfl, hi, p⟩
  by_cases hlt : i < (TL.tl x).length
  · refine .inr ⟨by show i < x.cps.size; omega, Pv (i + 1), fun σ' H' p' => ⟨(TL.tl x).length - (i + 1), by omega, rfl, hlt, p'⟩, fun v H' y => ?_⟩
    obtain ⟨e, c, hc, rfl⟩ := y
    subst e
    exact hs i c σ _ (by rw [← hc]; simp [TL.tl]) p
  · have e : i = (TL.tl x).length := by omega
    subst e
    exact .inl ⟨by show x.cps.size ≤ _; omega, hd σ H p⟩
theorem lc_str {x : Str} {g : TG} {tt : TT} {te : TE} {vs : List Nat} {σ : L2.St} {H1 : Hp} {D : Addr} {Qd : Hp → Prop} (Pv : Nat → Hp → Prop) (h0 : Pv 0 (upd H1 D (.lst [])))
    (hs : ∀ i c H, (TL.tl x)[i]? = some c → Pv i H → g (.str ⟨#[c]⟩) (wipe σ vs) H fun σ2 H2 => wipe σ2 vs = wipe σ vs ∧ tt σ2 H2 fun b H3 =>
      if b = true then te σ2 H3 fun y H4 => ∃ acc, H4 D = some (.lst acc) ∧ acc.length < sizeLine ∧ Pv (i + 1) (upd H4 D (.lst (acc ++ [y]))) else Pv (i + 1) H3) (hd : ∀ H, Pv (TL.tl x).length H → Qd H) :
    ∃ W : Nat → Nat → Hp → Prop, (∃ m, W 0 m (upd H1 D (.lst []))) ∧ ∀ i m H, W i m H →
      ((Its x).stop i H ∧ Qd H) ∨ ((Its x).go i H ∧ ∃ Nx : Hp → Prop, (∀ H', Nx H' → ∃ m', m' < m ∧ W (i + 1) m' H') ∧ ∀ v H', (Its x).yld i H v H' → g v (wipe σ vs) H' fun σ2 H2 => wipe σ2 vs = wipe σ vs ∧ tt σ2 H2 fun b H3 =>
        if b = true then te σ2 H3 fun y H4 => ∃ acc, H4 D = some (.lst acc) ∧ acc.length < sizeLine ∧ Nx (upd H4 D (.lst (acc ++ [y]))) else Nx H3) := by
  have hsz : x.cps.size = (TL.tl x).length := by simp [TL.tl]
  refine ⟨fun i m H => m = (TL.tl x).length - i ∧ i ≤ (TL.tl x).length ∧ Pv i H, ⟨(TL.tl x).length, by simp, Nat.zero_le _, h0⟩, ?_⟩
  rintro i m H ⟨rfl, hi, p⟩
  by_cases hlt : i < (TL.tl x).length
  · refine .inr ⟨by show i < x.cps.size; omega, Pv (i + 1), fun H' p' => ⟨(TL.tl x).length - (i + 1), by omega, rfl, hlt, p'⟩, fun v H' y => ?_⟩
    obtain ⟨e, c, hc, rfl⟩ := y
    subst e
    exact hs i c _ (by rw [← hc]; simp [TL.tl]) p
  · have e : i = (TL.tl x).length := by omega
    subst e
    exact .inl ⟨by show x.cps.size ≤ _; omega, hd H p⟩
theorem pe_joinK {X : Cx} {K : PySem.W.Frag} {o e : Expr} {to te : TE} {apos pos : Pos} (ho : PE X o to) (he : PE X e te) (hs : starEach [e] X.env = [(false, eval e X.env)] := by rfl) (hbase : attributeBase o "join" X.env (eval o X.env) = eval o X.env := by rfl) (hline : (apos.endLine == pos.line) = true := by rfl) (hK : X.K = K := by rfl) :
    PE X (.Call (.Attribute o "join" apos) [e] [] pos) (tM1 (fun x xs H Q => ∃ a p, ∃ ys : List Str, x = .str a ∧ xs = [.ref p] ∧ (SqL K H p (ys.map V.str) ∨ SqT K H p (ys.map V.str)) ∧
      (ys.map (·.length)).sum + ys.length * a.length ≤ 16777216 ∧ Q (.str (Txt.join a ys)) H) to te) := by subst hK; exact pe_join ho he hs hbase hline
/-! ### the text -/
def topS (i : Nat) : Stmt := PySem.Challenge.pw_bitebar_k14_written.main.body.getD i (.Pass ⟨0, 0, 0, 0⟩)
abbrev s_is_bar : Stmt := topS 8
abbrev N_is_bar : List Str := ["bar", "before", "pieces"]
theorem sc_is_bar : FnScope N_is_bar ["bar"] (defScope s_is_bar) := ⟨rfl, rfl, rfl, by decide +kernel, rfl, by decide +kernel, by decide +kernel⟩
section
variable {P : Program} {w : World} {K : PySem.W.Frag} {mg : Str → Option Value} {base : Heap}
/-- is_bar(bar) -/
def sp_is_bar (K : PySem.W.Frag) : Sp := fun vs H Q _ => ∃ (a : Addr) (ns : List Int), vs = [.ref a] ∧ SqL K H a (ns.map V.int) ∧ Q (.bl (isBarB ns)) H
theorem ok_is_bar {f : Addr} {fd : FuncData} (F : Fun K "is_bar" "is_bar" s_is_bar f fd) (m_len : mg "len" = none) {t1 t2 : Tok} (g_MOST_ROWS : mg "MOST_ROWS" = some (.int 5 t1)) (g_MOST_PIECES : mg "MOST_PIECES" = some (.int 5 t2)) :
    FnOk P w K mg base CX0 1 f fd ["bar"] (sp_is_bar K) := by
  refine F.ok sc_is_bar (fun vs H Q E h => ?_) (fun cdv A outer s H vs Q E hr h => ?_)
  · obtain ⟨a, ns, rfl, _⟩ := h
    rfl
  · obtain ⟨a, ns, rfl, hS, q⟩ := h
    have hl : (ns.map V.int).length = ns.length := List.length_map _
    refine ⟨_, (pss_cons (ps_if (PW.pt (pw_or (pt_cmpR op_lt (pe_callB (lenK (K := K)) (by rfl) m_len PySem.boot_len (pa_cons (pv 0) pa_nil)) pe_int (nomark _)) (pw_or1 (pt_cmpR op_gt (pe_callB (lenK (K := K)) (by rfl) m_len PySem.boot_len (pa_cons (pv 0) pa_nil)) (pe_glob (v := .int 5) (by rfl) g_MOST_ROWS ⟨_, rfl⟩) (nomark _)))))
        (pss_one (ps_ret pe_bl))
        pss_nil)
      (pss_cons (ps_set (i := 1) sc_is_bar.nd rfl (.inl rfl) (pe_glob (v := .int 5) (by rfl) g_MOST_PIECES ⟨_, rfl⟩))
      (pss_cons (ps_for PassesOwn.never rfl (pi_listK (K := K) (pv 0)) (pg_name (i := 2) sc_is_bar.nd rfl (.inl rfl))
        (pss_cons (ps_if (PW.pt (pw_or (pt_cmpR op_lt (pv 2) pe_int (nomark _)) (pw_or1 (pt_cmpR op_gt (pv 2) (pv 1) (nomark _)))))
          (pss_one (ps_ret pe_bl))
          pss_nil)
        (pss_one (ps_set (i := 1) sc_is_bar.nd rfl (.inl rfl) (pv 2)))))
      (pss_one (ps_ret pe_bl))))), ?_⟩
    refine ⟨_, rfl, a, _, rfl, .inl hS, _, _, rfl, rfl, _, rfl, ite2 (fun c => iteT ?_) (fun c => ?_)⟩
    · have c' := of_decide_eq_true c
      rw [hl] at c'
      have e : isBarB ns = false := by
        unfold isBarB
        rw [decide_eq_false (by omega), Bool.false_and]
      rw [e] at q
      exact q
    · refine ⟨_, rfl, a, _, rfl, .inl hS, _, _, rfl, rfl, _, rfl, ite2 (fun c2 => ?_) (fun c2 => ?_)⟩
      · have c' := of_decide_eq_true c2
        rw [hl] at c'
        have e : isBarB ns = false := by
          unfold isBarB
          rw [decide_eq_false (by omega), Bool.false_and]
        rw [e] at q
        exact q
      · have c1 := of_decide_eq_false (Bool.eq_false_iff.mpr c)
        have c2 := of_decide_eq_false (Bool.eq_false_iff.mpr c2)
        rw [hl] at c1 c2
        have e : isBarB ns = falls 5 ns := by
          unfold isBarB
          rw [decide_eq_true (by omega), Bool.true_and]
        rw [e] at q
        refine ⟨_, rfl, a, rfl, ⟨_, hS⟩, for_list (K := K) (a := a) (xs := ns.map V.int) (fun i σ H' => ∃ (m : Int) (v : Option V), σ = [some (.ref a), some (.int m), v] ∧ H' = H ∧ falls 5 ns = falls m (ns.drop i))
          ⟨5, none, rfl, rfl, rfl⟩ (fun i σ H' _ ⟨_, _, _, e, _⟩ => e ▸ hS) ?_ ?_⟩
        · rintro i y σ H' hi ⟨m, v, rfl, rfl, ef⟩
          obtain ⟨z, hz, rfl⟩ := map_get hi
          have hd : ns.drop i = z :: ns.drop (i + 1) := by
            obtain ⟨hi', e⟩ := List.getElem?_eq_some_iff.mp hz
            rw [List.drop_eq_getElem_cons hi', e]
          rw [hd, falls] at ef
          refine ⟨_, rfl, _, _, rfl, rfl, _, rfl, ite2 (fun c => iteT ?_) (fun c => ?_)⟩
          · have c' := of_decide_eq_true c
            rw [decide_eq_false (by omega), Bool.false_and] at ef
            rw [ef] at q
            exact q
          · refine ⟨_, rfl, _, rfl, _, _, rfl, rfl, _, rfl, ite2 (fun c2 => ?_) (fun c2 => ?_)⟩
            · have c' := of_decide_eq_true c2
              rw [decide_eq_false (by omega), Bool.false_and] at ef
              rw [ef] at q
              exact q
            · have c3 := of_decide_eq_false (Bool.eq_false_iff.mpr c)
              have c4 := of_decide_eq_false (Bool.eq_false_iff.mpr c2)
              rw [decide_eq_true (by omega), Bool.true_and] at ef
              exact ⟨_, rfl, z, some (.int z), rfl, rfl, ef⟩
        · rintro σ H' ⟨m, v, rfl, rfl, ef⟩
          rw [hl, List.drop_length, falls] at ef
          rw [ef] at q
          exact q
end
abbrev s_asked_bar : Stmt := topS 9
abbrev N_asked_bar : List Str := ["bar"]
theorem sc_asked_bar : FnScope N_asked_bar ["bar"] (defScope s_asked_bar) := ⟨rfl, rfl, rfl, by decide +kernel, rfl, by decide +kernel, by decide +kernel⟩
section
variable {P : Program} {w : World} {K : PySem.W.Frag} {mg : Str → Option Value} {base : Heap}
/-- asked_bar(bar), good bars -/
def sp_asked_bar (K : PySem.W.Frag) : Sp := fun vs H Q _ => ∃ (a : Addr) (ns : List Int), vs = [.ref a] ∧ SqL K H a (ns.map V.int) ∧ isBarB ns = true ∧ Q .non H
theorem ok_asked_bar {f : Addr} {fd : FuncData} (F : Fun K "asked_bar" "asked_bar" s_asked_bar f fd) (C_is_bar : Cal P w K mg base CX0 1 "is_bar" ["bar"] (sp_is_bar K)) :
    FnOk P w K mg base CX0 2 f fd ["bar"] (sp_asked_bar K) := by
  refine F.ok sc_asked_bar (fun vs H Q E h => ?_) (fun cdv A outer s H vs Q E hr h => ?_)
  · obtain ⟨a, ns, rfl, _⟩ := h
    rfl
  · obtain ⟨a, ns, rfl, hS, hb, q⟩ := h
    refine ⟨_, (pss_one (ps_if (pt_not (pt_val (pe_c C_is_bar hr (by decide) pass0 (pa_cons (pv 0) pa_nil))))
        (pss_one ps_never)
        pss_nil)), ?_⟩
    refine ⟨_, rfl, a, ns, rfl, hS, _, rfl, ?_⟩
    rw [hb]
    exact iteF q
end
abbrev s_asked_table : Stmt := topS 12
abbrev N_asked_table : List Str := ["table", "bar"]
theorem sc_asked_table : FnScope N_asked_table ["table"] (defScope s_asked_table) := ⟨rfl, rfl, rfl, by decide +kernel, rfl, by decide +kernel, by decide +kernel⟩
section
variable {P : Program} {w : World} {K : PySem.W.Frag} {mg : Str → Option Value} {base : Heap}
/-- asked_table(table), good tables -/
def sp_asked_table (K : PySem.W.Frag) : Sp := fun vs H Q _ => ∃ (T : Addr) (xs : List V) (ds : List (List Int)), vs = [.ref T] ∧ SqL K H T xs ∧ LL H xs ds ∧ IsTable ds ∧ Q .non H
theorem ok_asked_table {f : Addr} {fd : FuncData} (F : Fun K "asked_table" "asked_table" s_asked_table f fd) (m_len : mg "len" = none) {t1 : Tok} (g_MOST : mg "MOST" = some (.int 3 t1)) (C_asked_bar : Cal P w K mg base CX0 2 "asked_bar" ["bar"] (sp_asked_bar K)) :
    FnOk P w K mg base CX0 3 f fd ["table"] (sp_asked_table K) := by
  refine F.ok sc_asked_table (fun vs H Q E h => ?_) (fun cdv A outer s H vs Q E hr h => ?_)
  · obtain ⟨T, xs, ds, rfl, _⟩ := h
    rfl
  · obtain ⟨T, xs, ds, rfl, hT, ll, it, q⟩ := h
    have el := ll.length
    have l3 := it.le
    refine ⟨_, (pss_cons (ps_if (pt_cmpR op_gt (pe_callB (lenK (K := K)) (by rfl) m_len PySem.boot_len (pa_cons (pv 0) pa_nil)) (pe_glob (v := .int 3) (by rfl) g_MOST ⟨_, rfl⟩) (nomark _))
        (pss_one ps_never)
        pss_nil)
      (pss_one (ps_for PassesOwn.never rfl (pi_listK (K := K) (pv 0)) (pg_name (i := 1) sc_asked_table.nd rfl (.inl rfl))
        (pss_one (ps_expr (pe_c C_asked_bar hr (by decide) pass0 (pa_cons (pv 1) pa_nil))))))), ?_⟩
    refine ⟨_, rfl, T, _, rfl, .inl hT, _, _, rfl, rfl, _, rfl, dF_ (by show ¬ (3 : Int) < ((_ : Nat) : Int); omega) ?_⟩
    refine ⟨_, rfl, T, rfl, ⟨_, hT⟩, for_list (K := K) (a := T) (xs := xs) (fun i σ H' => ∃ y : Option V, σ = [some (.ref T), y] ∧ H' = H) ⟨none, rfl, rfl⟩ (fun i σ H' _ ⟨_, _, e⟩ => e ▸ hT) ?_ ?_⟩
    · rintro i x σ H1 hi ⟨y, rfl, rfl⟩
      obtain ⟨t, d, hd, rfl, ht⟩ := ll.at hi
      exact ⟨_, rfl, t, d, rfl, SqL.of ht, isBarB_iff.mpr (it.is d (List.mem_of_getElem? hd)), _, rfl, rfl⟩
    · rintro σ H1 ⟨y, rfl, rfl⟩
      exact q
end
abbrev s_shown : Stmt := topS 15
abbrev N_shown : List Str := ["table", "pieces", "bar"]
theorem sc_shown : FnScope N_shown ["table"] (defScope s_shown) := ⟨rfl, rfl, rfl, by decide +kernel, rfl, by decide +kernel, by decide +kernel⟩
section
variable {P : Program} {w : World} {K : PySem.W.Frag} {mg : Str → Option Value} {base : Heap}
/-- shown(table), good tables -/
def sp_shown (K : PySem.W.Frag) : Sp := fun vs H Q _ => ∃ (T : Addr) (xs : List V) (ds : List (List Int)), vs = [.ref T] ∧ H T = some (.lst xs) ∧ LL H xs ds ∧ IsTable ds ∧ ∀ H', Same H H' → Q (.str (noteS ds)) H'
theorem ok_shown {f : Addr} {fd : FuncData} (F : Fun K "shown" "shown" s_shown f fd) (m_str : mg "str" = none) (C_asked_table : Cal P w K mg base CX0 3 "asked_table" ["table"] (sp_asked_table K)) : FnOk P w K mg base CX0 4 f fd ["table"] (sp_shown K) := by
  refine F.ok sc_shown (fun vs H Q E h => ?_) (fun cdv A outer s H vs Q E hr h => ?_)
  · obtain ⟨T, xs, ds, rfl, _⟩ := h
    rfl
  · obtain ⟨T, xs, ds, rfl, hT, ll, it, q⟩ := h
    have el := ll.length
    have l3 := it.le
    refine ⟨_, (pss_cons (ps_expr (pe_c C_asked_table hr (by decide) pass0 (pa_cons (pv 0) pa_nil)))
      (pss_one (ps_ret (pe_joinK (K := K) pe_str (pe_lc (own := [("bar", 2)]) (g := gName 2) (tt := tYes) rfl sc_shown.nd (pi_listK (K := K) (pv 0)) (blkOk_by (N := N_shown) (sc := defScope s_shown) (by decide +kernel)) (fun _ _ _ _ _ => (pg_name (i := 2) sc_shown.nd rfl (.inl rfl))) (fun _ _ _ _ _ => pts_nil) (fun _ _ _ _ _ => (pe_joinK (K := K) pe_str (by exact (pe_lc (own := [("pieces", 1)]) (g := gName 1) (tt := tYes) rfl sc_shown.nd (pi_listK (K := K) (pv 2)) (blkOk_by (by kernel_rfl)) (fun _ _ _ _ _ => (pg_name (i := 1) sc_shown.nd rfl (.inl rfl))) (fun _ _ _ _ _ => pts_nil) (fun _ _ _ _ _ => (pe_callTy call_str_int (by rfl) m_str (by decide +kernel) (pa_cons (pv 1) pa_nil)))))))))))), ?_⟩
    refine ⟨_, rfl, T, xs, ds, rfl, SqL.of hT, ll, it, ?_⟩
    refine ⟨⟨_, rfl⟩, _, rfl, T, rfl, ⟨_, SqL.of hT⟩, fun D nD => ?_⟩
    refine lc_list (K := K) (a := T) (xs := xs) (fun i H' => Same H H' ∧ H' D = some (.lst (((ds.take i).map wordS).map V.str))) ⟨sNew nD, upd_same⟩ (fun _ _ _ h => SqL.of (h.1 _ _ hT)) ?_ ?_
    · rintro i x H1 hi ⟨s1, hD⟩
      obtain ⟨t, d, hd, rfl, ht⟩ := ll.at hi
      have ib := it.is d (List.mem_of_getElem? hd)
      have l5 := ib.le
      refine ⟨rfl, yesT ?_⟩
      refine ⟨⟨_, rfl⟩, _, rfl, t, rfl, ⟨_, SqL.of (s1 _ _ ht)⟩, fun D2 nD2 => ?_⟩
      refine lc_list (K := K) (a := t) (xs := d.map V.int) (fun j H' => Same H1 H' ∧ H' D2 = some (.lst (((d.take j).map fun x => (⟨#[48 + x.toNat]⟩ : Str)).map V.str))) ⟨sNew nD2, upd_same⟩ (fun _ _ _ h => SqL.of (h.1 _ _ (s1 _ _ ht))) ?_ ?_
      · rintro j y H2 hj ⟨s2, hD2⟩
        obtain ⟨u, hu, rfl⟩ := map_get hj
        have hu5 := ib.rg u (List.mem_of_getElem? hu)
        refine ⟨rfl, yesT ⟨_, rfl, u, rfl, ?_, _, hD2, ?_, sPut s2 nD2, ?_⟩⟩
        · rcases (by omega : u = 1 ∨ u = 2 ∨ u = 3 ∨ u = 4 ∨ u = 5) with rfl | rfl | rfl | rfl | rfl <;> decide
        · rw [List.length_map, List.length_map, List.length_take]
          exact small' (by omega)
        · rw [upd_same, take_more hu, List.map_append, List.map_append, str_digit hu5.1 hu5.2]
          all_goals rfl
      · rintro H2 ⟨s2, hD2⟩
        rw [List.length_map, List.take_length] at hD2
        have hDk := s2 _ _ hD
        refine ⟨_, D2, _, rfl, rfl, .inl (SqL.of hD2), ?_, ?_⟩
        · have e0 : (Str.ofString "").length = 0 := by decide +kernel
          rw [e0, Nat.mul_zero, Nat.add_zero, List.map_map]
          have h1 : (d.map ((fun x => Str.length x) ∘ fun x : Int => (⟨#[48 + x.toNat]⟩ : Str))).sum = d.length := by
            clear hD2 hi ht hd ib l5
            induction d with
            | nil => rfl
            | cons x d ih =>
              rw [List.map_cons, List.sum_cons, ih, List.length_cons, Nat.add_comm]
              rfl
          show (List.map ((fun x => Str.length x) ∘ fun x : Int => (⟨#[48 + x.toNat]⟩ : Str)) d).sum ≤ _
          rw [h1]
          omega
        · rw [join_word]
          refine ⟨_, hDk, ?_, sPut (s1.trans s2) nD, ?_⟩
          · rw [List.length_map, List.length_map, List.length_take]
            exact small' (by omega)
          · rw [upd_same, take_more hd, List.map_append, List.map_append]
            all_goals rfl
    · rintro H1 ⟨s1, hD⟩
      rw [el, List.take_length] at hD
      refine ⟨_, D, _, rfl, rfl, .inl (SqL.of hD), ?_, q H1 s1⟩
      have e1 : blank.length = 1 := by decide +kernel
      have h1 : ((ds.map wordS).map fun x => Str.length x).sum ≤ 5 * ds.length := by
        have := it.is
        clear hD el l3 ll q it
        induction ds with
        | nil => exact Nat.zero_le _
        | cons d ds ih =>
          have h1 := (this d List.mem_cons_self).le
          have h2 := ih fun e he => this e (List.mem_cons_of_mem _ he)
          rw [List.map_cons, List.map_cons, List.sum_cons, wordS_len, List.length_cons]
          omega
      show ((ds.map wordS).map fun x => Str.length x).sum + (ds.map wordS).length * blank.length ≤ 16777216
      rw [e1, List.length_map]
      omega
end
abbrev s_bar_of : Stmt := topS 16
abbrev N_bar_of : List Str := ["word", "sign", "found"]
theorem sc_bar_of : FnScope N_bar_of ["word"] (defScope s_bar_of) := ⟨rfl, rfl, rfl, by decide +kernel, rfl, by decide +kernel, by decide +kernel⟩
section
variable {P : Program} {w : World} {K : PySem.W.Frag} {mg : Str → Option Value} {base : Heap}
/-- bar_of(word), the word of a bar -/
def sp_bar_of (K : PySem.W.Frag) : Sp := fun vs H Q _ => ∃ d : List Int, vs = [.str (wordS d)] ∧ IsBar 5 d ∧ ∀ H' p, Same H H' → H p = none → H' p = some (.lst (d.map V.int)) → Q (.ref p) H'
theorem ok_bar_of {f : Addr} {fd : FuncData} (F : Fun K "bar_of" "bar_of" s_bar_of f fd) {t1 : Tok} (g_FIGURES : mg "FIGURES" = some (.str (PySem.Str.ofString "12345") t1)) (C_is_bar : Cal P w K mg base CX0 1 "is_bar" ["bar"] (sp_is_bar K)) :
    FnOk P w K mg base CX0 2 f fd ["word"] (sp_bar_of K) := by
  refine F.ok sc_bar_of (fun vs H Q E h => ?_) (fun cdv A outer s H vs Q E hr h => ?_)
  · obtain ⟨d, rfl, _⟩ := h
    rfl
  · obtain ⟨d, rfl, ib, q⟩ := h
    have l5 := ib.le
    have at5 : ∀ {i c : Nat}, (TL.tl (wordS d))[i]? = some c → ∃ x : Int, d[i]? = some x ∧ c = 48 + x.toNat ∧ 1 ≤ x ∧ x ≤ 5 := fun {i c} h => by
      rw [tl_wordS] at h
      unfold codesW at h
      rw [List.getElem?_map] at h
      cases e : d[i]? with
      | none => rw [e] at h; cases h
      | some x => rw [e] at h; exact ⟨x, rfl, (Option.some.inj h).symm, ib.rg x (List.mem_of_getElem? e)⟩
    have len : (TL.tl (wordS d)).length = d.length := List.length_map _
    refine ⟨_, (pss_cons (ps_for PassesOwn.never rfl (pi_str (pv 0)) (pg_name (i := 1) sc_bar_of.nd rfl (.inl rfl))
        (pss_one (ps_if (pt_cmpR op_notIn_sign (pv 1) (pe_glob (v := .str (PySem.Str.ofString "12345")) (by rfl) g_FIGURES ⟨_, rfl⟩) (by rfl))
          (pss_one ps_never)
          pss_nil)))
      (pss_cons (ps_setLc (i := 2) (own := [("sign", 1)]) (g := gName 1) (tt := tYes) rfl sc_bar_of.nd rfl rfl (sw_true rfl rfl rfl (by decide +kernel)) (pi_str (pv 0)) (blkOk_by (N := N_bar_of) (sc := defScope s_bar_of) (by decide +kernel)) (fun _ _ _ _ _ => (pg_name (i := 1) sc_bar_of.nd rfl (.inl rfl))) (fun _ _ _ _ _ => pts_nil) (fun _ _ _ _ _ => (pe_op op_add pe_int (pe_bmK (K := K) PySem.F.plainAttrs_str PySem.F.slot_str_index PySem.F.type_str_index mt_sindex (pe_glob (v := .str (PySem.Str.ofString "12345")) (by rfl) g_FIGURES ⟨_, rfl⟩) (pa_cons (pv 1) pa_nil)))))
      (pss_cons (ps_if (pt_not (pt_val (pe_c C_is_bar hr (by decide) pass0 (pa_cons (pv 2) pa_nil))))
        (pss_one ps_never)
        pss_nil)
      (pss_one (ps_ret (pv 2)))))), ?_⟩
    refine ⟨_, rfl, _, rfl, for_str (fun i σ H' => ∃ y : Option V, σ = [some (.str (wordS d)), y, none] ∧ H' = H) ⟨none, rfl, rfl⟩ ?_ ?_⟩
    · rintro i c σ H1 hc ⟨y, rfl, rfl⟩
      obtain ⟨x, hx, rfl, x1, x5⟩ := at5 hc
      exact ⟨_, rfl, _, _, rfl, rfl, _, rfl, nF_ (fig_at x1 x5).2.1 ⟨_, rfl, rfl⟩⟩
    · rintro σ H1 ⟨y, rfl, rfl⟩
      refine ⟨_, rfl, _, rfl, fun D nD => ?_⟩
      refine lc_str (fun i H' => Same H1 H' ∧ H' D = some (.lst ((d.take i).map V.int))) ⟨sNew nD, upd_same⟩ ?_ ?_
      · rintro i c H2 hc ⟨s2, hD⟩
        obtain ⟨x, hx, rfl, x1, x5⟩ := at5 hc
        refine ⟨rfl, yesT ⟨rfl, _, rfl, _, _, _, _, rfl, rfl, (fig_at x1 x5).1, _, _, rfl, rfl, _, hD, ?_, sPut s2 nD, ?_⟩⟩
        · rw [List.length_map, List.length_take]
          exact small' (by omega)
        · rw [upd_same, take_more hx, List.map_append]
          show some (HO.lst (_ ++ [V.int (1 + ((x.toNat - 1 : Nat) : Int))])) = _
          rw [show 1 + ((x.toNat - 1 : Nat) : Int) = x by omega]
          all_goals rfl
      · rintro H2 ⟨s2, hD⟩
        rw [len, List.take_length] at hD
        refine ⟨_, rfl, D, d, rfl, SqL.of hD, _, rfl, ?_⟩
        rw [isBarB_iff.mpr ib]
        exact iteF ⟨_, rfl, q H2 D s2 nD hD⟩
end
abbrev s_read : Stmt := topS 17
abbrev N_read : List Str := ["text", "words", "word"]
theorem sc_read : FnScope N_read ["text"] (defScope s_read) := ⟨rfl, rfl, rfl, by decide +kernel, rfl, by decide +kernel, by decide +kernel⟩
section
variable {P : Program} {w : World} {K : PySem.W.Frag} {mg : Str → Option Value} {base : Heap}
/-- read(text), the text of a table: a new table of new bars -/
def sp_read (K : PySem.W.Frag) : Sp := fun vs H Q _ => ∃ ds : List (List Int), vs = [.str (noteS ds)] ∧ IsTable ds ∧ ∀ H' p ys, Same H H' → H p = none → H' p = some (.lst ys) → LL H' ys ds → NewL H ys → ys.Nodup → V.ref p ∉ ys → Q (.ref p) H'
theorem ok_read {f : Addr} {fd : FuncData} (F : Fun K "read" "read" s_read f fd) (m_len : mg "len" = none) {t1 : Tok} (g_MOST : mg "MOST" = some (.int 3 t1)) (C_bar_of : Cal P w K mg base CX0 2 "bar_of" ["word"] (sp_bar_of K)) :
    FnOk P w K mg base CX0 3 f fd ["text"] (sp_read K) := by
  refine F.ok sc_read (fun vs H Q E h => ?_) (fun cdv A outer s H vs Q E hr h => ?_)
  · obtain ⟨ds, rfl, _⟩ := h
    rfl
  · obtain ⟨ds, rfl, it, q⟩ := h
    have l3 := it.le
    refine ⟨_, (pss_cons (ps_if (pt_cmpR op_eq (pv 0) pe_str (nomark _))
        (pss_one (ps_ret (pe_lst pa_nil)))
        pss_nil)
      (pss_cons (ps_set (i := 1) sc_read.nd rfl (.inl rfl) (pe_split (pv 0) pe_str))
      (pss_cons (ps_if (pt_cmpR op_gt (pe_callB (lenK (K := K)) (by rfl) m_len PySem.boot_len (pa_cons (pv 1) pa_nil)) (pe_glob (v := .int 3) (by rfl) g_MOST ⟨_, rfl⟩) (nomark _))
        (pss_one ps_never)
        pss_nil)
      (pss_one (ps_ret (pe_lc (own := [("word", 2)]) (g := gName 2) (tt := tYes) rfl sc_read.nd (pi_listK (K := K) (pv 1)) (blkOk_by (N := N_read) (sc := defScope s_read) (by decide +kernel)) (fun _ _ _ _ _ => (pg_name (i := 2) sc_read.nd rfl (.inl rfl))) (fun _ _ _ _ _ => pts_nil) (fun _ _ _ _ _ => (pe_c C_bar_of hr (by decide) pass0 (pa_cons (pv 2) pa_nil))))))))), ?_⟩
    by_cases hne : ds = []
    · subst hne
      refine ⟨_, rfl, rfl, _, rfl, dT_ (by rw [noteS_nil]) ⟨Nat.zero_le _, fun p np => ?_⟩⟩
      exact q _ p [] (sNew np) np upd_same Paired.nil (fun x hx => nomatch hx) List.nodup_nil (by simp)
    · refine ⟨_, rfl, rfl, _, rfl, dF_ (fun z => note_ne hne it.is (by injection z)) ?_⟩
      have hsp := note_split hne it.is
      refine ⟨_, rfl, ⟨_, rfl⟩, _, _, rfl, rfl, by decide +kernel, ?_, fun L nL => ?_⟩
      · have := note_len l3 it.is
        exact small (by omega)
      have s1 : Same H (upd H L (.lst ((Txt.split (noteS ds) (Str.ofString " ")).map V.str))) := sNew nL
      have hL : upd H L (.lst ((Txt.split (noteS ds) (Str.ofString " ")).map V.str)) L = some (.lst ((ds.map wordS).map V.str)) := by
        rw [upd_same]
        show some (HO.lst ((Txt.split (noteS ds) blank).map V.str)) = _
        rw [hsp]
      generalize upd H L (.lst ((Txt.split (noteS ds) (Str.ofString " ")).map V.str)) = H1 at s1 hL ⊢
      have hlen : ((ds.map wordS).map V.str).length = ds.length := by rw [List.length_map, List.length_map]
      refine ⟨_, rfl, L, _, rfl, .inl (SqL.of hL), _, _, rfl, rfl, _, rfl, dF_ (by rw [hlen]; omega) ?_⟩
      refine ⟨_, rfl, L, rfl, ⟨_, SqL.of hL⟩, fun D nD => ?_⟩
      refine lc_list (K := K) (a := L) (xs := (ds.map wordS).map V.str) (fun i H' => ∃ ys : List V, Same H1 H' ∧ H' D = some (.lst ys) ∧ LL H' ys (ds.take i) ∧ NewL H1 ys ∧ ys.Nodup ∧ V.ref D ∉ ys)
        ⟨[], sNew nD, upd_same, Paired.nil, fun x hx => (nomatch hx), List.nodup_nil, by simp⟩ (fun _ _ _ ⟨_, s, _⟩ => SqL.of (s _ _ hL)) ?_ ?_
      · rintro i x H2 hi ⟨ys, s2, hD, ly, ny, nd, nm⟩
        rw [List.getElem?_map, List.getElem?_map] at hi
        cases he : ds[i]? with
        | none => rw [he] at hi; cases hi
        | some d =>
          rw [he] at hi
          obtain rfl := Option.some.inj hi
          have hil : i < ds.length := (List.getElem?_eq_some_iff.mp he).1
          refine ⟨rfl, yesT ⟨_, rfl, d, rfl, it.is d (List.mem_of_getElem? he), fun H3 b s3 nb hb => ?_⟩⟩
          have Db : D ≠ b := ne_of_none hD nb
          have bny : V.ref b ∉ ys := fun hm => by
            obtain ⟨j, hj⟩ := List.mem_iff_getElem?.mp hm
            obtain ⟨t, e, _, e2, ht⟩ := ly.at hj
            have : b = t := V.ref.inj e2
            rw [← this, nb] at ht
            cases ht
          refine ⟨ys, s3 _ _ hD, ?_, ys ++ [.ref b], sPut (s2.trans s3) nD, upd_same, ?_, ?_, ?_, ?_⟩
          · rw [ly.length, List.length_take]
            exact small' (by omega)
          · rw [take_more he]
            refine LL.snoc (LL.keepM ly fun c cs hm e => ?_) (by rw [upd_ne Db.symm]; exact hb)
            have h1 : c ≠ D := fun z => nm (by rw [← z]; exact hm)
            rw [upd_ne h1]
            exact s3 _ _ e
          · intro y hy u e
            rcases List.mem_append.mp hy with h | h
            · exact ny y h u e
            · rw [List.mem_singleton.mp h] at e
              rw [← V.ref.inj e]
              exact s2.free nb
          · exact nd_snoc nd bny
          · intro z
            rcases List.mem_append.mp z with h | h
            · exact nm h
            · exact Db (V.ref.inj (List.mem_singleton.mp h))
      · rintro H2 ⟨ys, s2, hD, ly, ny, nd, nm⟩
        rw [hlen, List.take_length] at ly
        exact q H2 D ys (s1.trans s2) (s1.free nD) hD ly (fun y hy u e => s1.free (ny y hy u e)) nd nm
end
abbrev s_law_cell_at : Stmt := topS 19
abbrev N_law_cell_at : List Str := ["script", "k"]
theorem sc_law_cell_at : FnScope N_law_cell_at ["script", "k"] (defScope s_law_cell_at) := ⟨rfl, rfl, rfl, by decide +kernel, rfl, by decide +kernel, by decide +kernel⟩
section
variable {P : Program} {w : World} {K : PySem.W.Frag} {mg : Str → Option Value} {base : Heap}
/-- _law_cell_at(script, k) -/
def cellAt (ns : List Int) (k : Nat) : Int := ns.getD k 0
def sp_law_cell_at (K : PySem.W.Frag) : Sp := fun vs H Q _ => ∃ (a : Addr) (ns : List Int) (k : Nat), vs = [.ref a, .int k] ∧ SqL K H a (ns.map V.int) ∧ Q (.int (cellAt ns k)) H
theorem ok_law_cell_at {f : Addr} {fd : FuncData} (F : Fun K "_law_cell_at" "_law_cell_at" s_law_cell_at f fd) (m_len : mg "len" = none) : FnOk P w K mg base CX0 1 f fd ["script", "k"] (sp_law_cell_at K) := by
  refine F.ok sc_law_cell_at (fun vs H Q E h => ?_) (fun cdv A outer s H vs Q E hr h => ?_)
  · obtain ⟨a, ns, k, rfl, _⟩ := h
    rfl
  · obtain ⟨a, ns, k, rfl, hS, q⟩ := h
    have hl : (ns.map V.int).length = ns.length := List.length_map _
    refine ⟨_, (pss_cons (ps_if (pt_cmpR op_lt (pv 1) (pe_callB (lenK (K := K)) (by rfl) m_len PySem.boot_len (pa_cons (pv 0) pa_nil)) (nomark _))
        (pss_one (ps_ret (pe_ix (ixK (K := K)) (pv 0) (pv 1) (fun _ _ => rfl))))
        pss_nil)
      (pss_one (ps_ret pe_int))), ?_⟩
    refine ⟨_, rfl, _, rfl, a, _, rfl, .inl hS, _, _, rfl, rfl, _, rfl, ite2 (fun c => ?_) (fun c => ?_)⟩
    · have c' := of_decide_eq_true c
      rw [hl] at c'
      have hk : k < ns.length := by omega
      have e : cellAt ns k = ns[k] := by
        unfold cellAt
        rw [List.getD_eq_getElem?_getD, List.getElem?_eq_getElem hk]; rfl
      rw [e] at q
      exact ⟨_, rfl, _, rfl, a, _, _, _, rfl, rfl, hS, at_map (List.getElem?_eq_getElem hk), q⟩
    · have c' := of_decide_eq_false (Bool.eq_false_iff.mpr c)
      rw [hl] at c'
      have e : cellAt ns k = 0 := by
        unfold cellAt
        rw [List.getD_eq_getElem?_getD, List.getElem?_eq_none (by omega)]; rfl
      rw [e] at q
      exact q
end
abbrev s_law_whole : Stmt := topS 20
abbrev N_law_whole : List Str := ["found"]
theorem sc_law_whole : FnScope N_law_whole ["found"] (defScope s_law_whole) := ⟨rfl, rfl, rfl, by decide +kernel, rfl, by decide +kernel, by decide +kernel⟩
section
variable {P : Program} {w : World} {K : PySem.W.Frag} {mg : Str → Option Value} {base : Heap}
/-- _law_whole(found), of an int -/
def sp_law_whole (K : PySem.W.Frag) : Sp := fun vs H Q _ => ∃ i : Int, vs = [.int i] ∧ Q (.bl true) H
theorem ok_law_whole {f : Addr} {fd : FuncData} (F : Fun K "_law_whole" "_law_whole" s_law_whole f fd) (m_isinstance : mg "isinstance" = none) (m_int : mg "int" = none) (m_bool : mg "bool" = none) : FnOk P w K mg base CX0 1 f fd ["found"] (sp_law_whole K) := by
  refine F.ok sc_law_whole (fun vs H Q E h => ?_) (fun cdv A outer s H vs Q E hr h => ?_)
  · obtain ⟨i, rfl, _⟩ := h
    rfl
  · obtain ⟨i, rfl, q⟩ := h
    refine ⟨_, (pss_one (ps_ret (pe_and (pe_callB (isiK (K := K)) (by rfl) m_isinstance (by decide +kernel) (pa_cons (pv 0) (pa_cons (pe_bltn (v := .ty "int") (by rfl) m_int (by decide +kernel) rfl) pa_nil))) (pe_one (pe_not (pe_callB (isiK (K := K)) (by rfl) m_isinstance (by decide +kernel) (pa_cons (pv 0) (pa_cons (pe_bltn (v := .ty "bool") (by rfl) m_bool (by decide +kernel) rfl) pa_nil)))))))), ?_⟩
    refine ⟨_, rfl, _, _, _, _, true, rfl, .ty _, .base (.int i), kit_ty (by decide +kernel), true, rfl, iteT ?_⟩
    exact ⟨_, rfl, _, _, _, _, false, rfl, .ty _, .base (.int i), kit_ty (by decide +kernel), false, rfl, q⟩
end
abbrev s_law_is_list : Stmt := topS 21
abbrev N_law_is_list : List Str := ["found", "due", "k"]
theorem sc_law_is_list : FnScope N_law_is_list ["found", "due"] (defScope s_law_is_list) := ⟨rfl, rfl, rfl, by decide +kernel, rfl, by decide +kernel, by decide +kernel⟩
section
variable {P : Program} {w : World} {K : PySem.W.Frag} {mg : Str → Option Value} {base : Heap}
/-- _law_is_list(found, due), of two lists of the same ints -/
def sp_law_is_list (K : PySem.W.Frag) : Sp := fun vs H Q _ => ∃ (p d : Addr) (ns : List Int), vs = [.ref p, .ref d] ∧ H p = some (.lst (ns.map V.int)) ∧ H d = some (.lst (ns.map V.int)) ∧ ns.length ≤ 1000 ∧ Q (.bl true) H
theorem ok_law_is_list {f : Addr} {fd : FuncData} (F : Fun K "_law_is_list" "_law_is_list" s_law_is_list f fd) (m_len : mg "len" = none) (m_range : mg "range" = none) (m_isinstance : mg "isinstance" = none) (m_list : mg "list" = none)
    (C_law_whole : Cal P w K mg base CX0 1 "_law_whole" ["found"] (sp_law_whole K)) : FnOk P w K mg base CX0 2 f fd ["found", "due"] (sp_law_is_list K) := by
  refine F.ok sc_law_is_list (fun vs H Q E h => ?_) (fun cdv A outer s H vs Q E hr h => ?_)
  · obtain ⟨p, d, ns, rfl, _⟩ := h
    rfl
  · obtain ⟨p, d, ns, rfl, hp, hd, hl, q⟩ := h
    have el : (ns.map V.int).length = ns.length := List.length_map _
    refine ⟨_, (pss_cons (ps_if (PW.pt (pw_or (pt_not (pt_val (pe_callB (isiK (K := K)) (by rfl) m_isinstance (by decide +kernel) (pa_cons (pv 0) (pa_cons (pe_bltn (v := .ty "list") (by rfl) m_list (by decide +kernel) rfl) pa_nil))))) (pw_or1 (pt_cmpR op_ne (pe_callB (lenK (K := K)) (by rfl) m_len PySem.boot_len (pa_cons (pv 0) pa_nil)) (pe_callB (lenK (K := K)) (by rfl) m_len PySem.boot_len (pa_cons (pv 1) pa_nil)) (nomark _)))))
        (pss_one (ps_ret pe_bl))
        pss_nil)
      (pss_cons (ps_for PassesOwn.never rfl (pi_range1 (by rfl) m_range (pa_cons (pe_callB (lenK (K := K)) (by rfl) m_len PySem.boot_len (pa_cons (pv 1) pa_nil)) pa_nil)) (pg_name (i := 2) sc_law_is_list.nd rfl (.inl rfl))
        (pss_one (ps_if (PW.pt (pw_or (pt_not (pt_val (pe_c C_law_whole hr (by decide) pass0 (pa_cons (pe_ix (ixK (K := K)) (pv 0) (pv 2) (fun _ _ => rfl)) pa_nil)))) (pw_or1 (pt_cmpR op_ne (pe_ix (ixK (K := K)) (pv 0) (pv 2) (fun _ _ => rfl)) (pe_ix (ixK (K := K)) (pv 1) (pv 2) (fun _ _ => rfl)) (nomark _)))))
          (pss_one (ps_ret pe_bl))
          pss_nil)))
      (pss_one (ps_ret pe_bl)))), ?_⟩
    refine ⟨_, rfl, _, _, _, _, true, rfl, .ty _, .base (.lst hp), kit_ty (by decide +kernel), true, rfl, iteF ?_⟩
    refine ⟨_, rfl, p, _, rfl, .inl (SqL.of hp), _, rfl, d, _, rfl, .inl (SqL.of hd), rfl, _, rfl, ?_⟩
    rw [decide_eq_true rfl]
    refine iteF ?_
    refine ⟨_, rfl, d, _, rfl, .inl (SqL.of hd), _, rfl, by omega, by omega,
      for_range (lo := 0) (fun i σ H' => ∃ (y2 : Option V), σ = [some (.ref p), some (.ref d), y2] ∧ H' = H) ⟨none, rfl, rfl⟩ ?_ ?_⟩
    · rintro i σ H1 hi ⟨y2, rfl, rfl⟩
      rw [el, Int.toNat_natCast] at hi
      have hz := List.getElem?_eq_getElem hi
      rw [Int.zero_add]
      refine ⟨_, rfl, _, rfl, p, _, _, _, rfl, rfl, SqL.of hp, at_map hz, ns[i], rfl, true, rfl, iteF ?_⟩
      refine ⟨_, rfl, _, rfl, p, _, _, _, rfl, rfl, SqL.of hp, at_map hz, _, rfl, _, rfl, d, _, _, _, rfl, rfl, SqL.of hd, at_map hz, rfl, _, rfl, ?_⟩
      rw [decide_eq_true rfl]
      exact iteF ⟨_, rfl, rfl⟩
    · rintro σ H1 ⟨y2, rfl, rfl⟩
      exact q
end
abbrev s_law_bar_by : Stmt := topS 22
abbrev N_law_bar_by : List Str := ["cell", "most", "many", "found", "k"]
theorem sc_law_bar_by : FnScope N_law_bar_by ["cell", "most"] (defScope s_law_bar_by) := ⟨rfl, rfl, rfl, by decide +kernel, rfl, by decide +kernel, by decide +kernel⟩
section
variable {P : Program} {w : World} {K : PySem.W.Frag} {mg : Str → Option Value} {base : Heap}
/-- _law_bar_by(cell, most): a bar -/
def sp_law_bar_by (K : PySem.W.Frag) : Sp := fun vs H Q _ => ∃ (c m : Int), vs = [.int c, .int m] ∧ 1 ≤ m ∧ m ≤ 5 ∧
  ∀ H' p ns, Same H H' → H p = none → H' p = some (.lst (ns.map V.int)) → IsBar m ns → Q (.ref p) H'
theorem ok_law_bar_by {f : Addr} {fd : FuncData} (F : Fun K "_law_bar_by" "_law_bar_by" s_law_bar_by f fd) (m_range : mg "range" = none) (m_sorted : mg "sorted" = none) : FnOk P w K mg base CX0 1 f fd ["cell", "most"] (sp_law_bar_by K) := by
  refine F.ok sc_law_bar_by (fun vs H Q E h => ?_) (fun cdv A outer s H vs Q E hr h => ?_)
  · obtain ⟨c, m, rfl, _⟩ := h
    rfl
  · obtain ⟨c, m, rfl, h1, h5, q⟩ := h
    have hm0 := Int.emod_nonneg c (show m ≠ 0 by omega)
    have hm1 := Int.emod_lt_of_pos c (show 0 < m by omega)
    refine ⟨_, (pss_cons (ps_set (i := 2) sc_law_bar_by.nd rfl (.inl rfl) (pe_op op_add pe_int (pe_op op_mod (pv 0) (pv 1))))
      (pss_cons (ps_set (i := 0) sc_law_bar_by.nd rfl (.inl rfl) (pe_op op_fdiv (pv 0) (pv 1)))
      (pss_cons (ps_set (i := 3) sc_law_bar_by.nd rfl (.inl rfl) (pe_lst pa_nil))
      (pss_cons (ps_for PassesOwn.never rfl (pi_range1 (by rfl) m_range (pa_cons (pv 2) pa_nil)) (pg_name (i := 4) sc_law_bar_by.nd rfl (.inl rfl))
        (pss_cons (ps_expr (pe_bmK (K := K) PySem.F.plainAttrs_list PySem.F.slot_list_append PySem.F.type_list_append mt_append (pv 3) (pa_cons (pe_op op_add pe_int (pe_op op_mod (pv 0) (pv 1))) pa_nil)))
        (pss_one (ps_set (i := 0) sc_law_bar_by.nd rfl (.inl rfl) (pe_op op_fdiv (pv 0) (pv 1))))))
      (pss_one (ps_ret (pe_callBK (sortedRevK (K := K)) (by rfl) m_sorted (by decide +kernel) (pa_cons (pv 3) pa_nil) (pk_cons pe_bl pk_nil)))))))), ?_⟩
    refine ⟨_, rfl, _, rfl, _, _, rfl, rfl, (by show 0 < m; omega), _, _, rfl, rfl, ?_⟩
    refine ⟨_, rfl, _, rfl, _, _, rfl, rfl, ⟨by omega, by omega⟩, Nat.zero_le _, fun o no => ?_⟩
    refine ⟨_, rfl, _, rfl, by omega, by omega,
      for_range (lo := 0) (fun i σ H' => ∃ (c' : Int) (y : Option V) (ds : List Int), σ = [some (.int c'), some (.int m), some (.int (1 + c % m)), some (.ref o), y] ∧ H' = upd H o (.lst (ds.map V.int)) ∧ ds.length = i ∧ ∀ x ∈ ds, 1 ≤ x ∧ x ≤ m)
      ⟨_, none, [], rfl, rfl, rfl, fun x hx => nomatch hx⟩ ?_ ?_⟩
    · rintro i σ H1 hi ⟨c', y, ds, rfl, rfl, el, hx⟩
      have hc0 := Int.emod_nonneg c' (show m ≠ 0 by omega)
      have hc1 := Int.emod_lt_of_pos c' (show 0 < m by omega)
      refine ⟨_, rfl, .inl ⟨rfl, _, SqL.of upd_same⟩, ?_⟩
      refine ⟨_, rfl, _, rfl, _, _, rfl, rfl, (by show 0 < m; omega), _, _, rfl, rfl, o, _, _, rfl, rfl, upd_same, by rw [List.length_map]; exact small' (by omega), ?_⟩
      refine ⟨_, rfl, _, rfl, _, _, rfl, rfl, ⟨by omega, by omega⟩, ?_⟩
      refine ⟨_, _, ds ++ [1 + c' % m], rfl, ?_, by rw [List.length_append, el]; rfl, fun x h => ?_⟩
      · rw [upd_upd, List.map_append]; rfl
      · rcases List.mem_append.mp h with h | h
        · exact hx x h
        · have := List.mem_singleton.mp h
          omega
    · rintro σ H1 ⟨c', y, ds, rfl, rfl, el, hx⟩
      refine ⟨_, rfl, o, ds, rfl, rfl, SqL.of upd_same, fun ns p hp ho np => ?_⟩
      have hlen := hp.length_eq
      refine q _ p ns (sThen (sNew no) np) ?_ upd_same ⟨by omega, by omega, ho, fun x h => hx x (hp.mem_iff.mp h)⟩
      cases e : H p with
      | none => rfl
      | some u =>
        have := sNew (o := .lst (ds.map V.int)) no p u e
        rw [np] at this
        cases this
end
abbrev s_law_table_by : Stmt := topS 23
abbrev N_law_table_by : List Str := ["script", "at", "most", "k"]
theorem sc_law_table_by : FnScope N_law_table_by ["script", "at", "most"] (defScope s_law_table_by) := ⟨rfl, rfl, rfl, by decide +kernel, rfl, by decide +kernel, by decide +kernel⟩
section
variable {P : Program} {w : World} {K : PySem.W.Frag} {mg : Str → Option Value} {base : Heap}
/-- _law_table_by(script, at, most): a new table -/
def sp_law_table_by (K : PySem.W.Frag) : Sp := fun vs H Q _ => ∃ (a : Addr) (ns : List Int) (k : Nat) (m : Int), vs = [.ref a, .int (k : Nat), .int m] ∧ SqL K H a (ns.map V.int) ∧ 1 ≤ m ∧ m ≤ 5 ∧
  ∀ H' T xs ds, Same H H' → H T = none → H' T = some (.lst xs) → LL H' xs ds → IsTable ds → Q (.ref T) H'
theorem ok_law_table_by {f : Addr} {fd : FuncData} (F : Fun K "_law_table_by" "_law_table_by" s_law_table_by f fd) (m_range : mg "range" = none) (C_law_cell_at : Cal P w K mg base CX0 1 "_law_cell_at" ["script", "k"] (sp_law_cell_at K)) (C_law_bar_by : Cal P w K mg base CX0 1 "_law_bar_by" ["cell", "most"] (sp_law_bar_by K)) :
    FnOk P w K mg base CX0 2 f fd ["script", "at", "most"] (sp_law_table_by K) := by
  refine F.ok sc_law_table_by (fun vs H Q E h => ?_) (fun cdv A outer s H vs Q E hr h => ?_)
  · obtain ⟨a, ns, k, m, rfl, _⟩ := h
    rfl
  · obtain ⟨a, ns, k, m, rfl, hS, m1, m5, q⟩ := h
    have h0 := Int.emod_nonneg (cellAt ns k) (show (4 : Int) ≠ 0 by decide)
    have h1 := Int.emod_lt_of_pos (cellAt ns k) (show (0 : Int) < 4 by decide)
    refine ⟨_, (pss_one (ps_ret (pe_lc (own := [("k", 3)]) (g := gName 3) (tt := tYes) rfl sc_law_table_by.nd (pi_range1 (by rfl) m_range (pa_cons (pe_op op_mod (pe_c C_law_cell_at hr (by decide) pass0 (pa_cons (pv 0) (pa_cons (pv 1) pa_nil))) pe_int) pa_nil)) (blkOk_by (N := N_law_table_by) (sc := defScope s_law_table_by) (by decide +kernel)) (fun _ _ _ _ _ => (pg_name (i := 3) sc_law_table_by.nd rfl (.inl rfl))) (fun _ _ _ _ _ => pts_nil) (fun _ _ _ _ _ => (pe_c C_law_bar_by hr (by decide) pass0 (pa_cons (pe_c C_law_cell_at hr (by decide) pass0 (pa_cons (pv 0) (pa_cons (pe_op op_add (pe_op op_add (pv 1) pe_int) (pv 3)) pa_nil))) (pa_cons (pv 2) pa_nil))))))), ?_⟩
    refine ⟨_, rfl, _, rfl, a, ns, k, rfl, hS, _, _, rfl, rfl, (by show (0 : Int) < 4; decide), _, rfl, by omega, by omega, fun D nD => ?_⟩
    refine lc_range (lo := 0) (n := (cellAt ns k % 4).toNat) (fun i H' => ∃ (ys : List V) (ds : List (List Int)), Same H H' ∧ H' D = some (.lst ys) ∧ LL H' ys ds ∧ (∀ d ∈ ds, IsBar 5 d) ∧ ds.length = i ∧ V.ref D ∉ ys)
      ⟨[], [], sNew nD, upd_same, Paired.nil, fun x hx => (nomatch hx), rfl, by simp⟩ ?_ ?_
    · rintro i H1 hi ⟨ys, ds, s1, hD, ly, ib, el, nm⟩
      refine ⟨rfl, yesT ?_⟩
      refine ⟨_, rfl, _, rfl, _, _, rfl, rfl, _, rfl, _, _, rfl, rfl, a, ns, k + 1 + i, ?_, s1.seq hS, ?_⟩
      · show [V.ref a, V.int ((k : Int) + 1 + (0 + (i : Int)))] = [V.ref a, V.int ((k + 1 + i : Nat) : Int)]
        rw [show (k : Int) + 1 + (0 + (i : Int)) = ((k + 1 + i : Nat) : Int) by omega]
      refine ⟨_, rfl, _, m, rfl, m1, m5, fun H2 b bs s2 nb hb ib2 => ?_⟩
      have Db : D ≠ b := ne_of_none hD nb
      have hyl : ys.length = i := by rw [ly.length, el]
      refine ⟨ys, s2 _ _ hD, small' (by omega), ys ++ [.ref b], ds ++ [bs], sPut (s1.trans s2) nD, upd_same, ?_, ?_, by rw [List.length_append, el]; rfl, fun z => ?_⟩
      · refine LL.snoc (LL.keepM ly fun c cs hm e => ?_) (by rw [upd_ne Db.symm]; exact hb)
        have h1 : c ≠ D := fun z => nm (by rw [← z]; exact hm)
        rw [upd_ne h1]
        exact s2 _ _ e
      · intro d hd
        rcases List.mem_append.mp hd with h | h
        · exact ib d h
        · rw [List.mem_singleton.mp h]
          exact ib2.mono m5
      · rcases List.mem_append.mp z with h | h
        · exact nm h
        · exact Db (V.ref.inj (List.mem_singleton.mp h))
    · rintro H1 ⟨ys, ds, s1, hD, ly, ib, el, nm⟩
      exact q H1 D ys ds s1 nD hD ly ⟨by omega, ib⟩
end
abbrev s_law : Stmt := topS 24
abbrev N_law : List Str := ["script", "table", "due", "k", "pieces", "handed", "bar", "text", "turn", "found"]
theorem sc_law : FnScope N_law ["script"] (defScope s_law) := ⟨rfl, rfl, rfl, by decide +kernel, rfl, by decide +kernel, by decide +kernel⟩
section
variable {P : Program} {w : World} {K : PySem.W.Frag} {mg : Str → Option Value} {base : Heap}
theorem append_empty (d : List Int) : noteS [d] = wordS d := rfl
theorem ok_law {f : Addr} {fd : FuncData} (F : Fun K "law" "law" s_law f fd) (m_list : mg "list" = none) (m_len : mg "len" = none) (m_range : mg "range" = none) (m_isinstance : mg "isinstance" = none) (m_str : mg "str" = none) (C_law_table_by : Cal P w K mg base CX0 2 "_law_table_by" ["script", "at", "most"] (sp_law_table_by K))
    (C_shown : Cal P w K mg base CX0 4 "shown" ["table"] (sp_shown K)) (C_read : Cal P w K mg base CX0 3 "read" ["text"] (sp_read K)) (C_law_is_list : Cal P w K mg base CX0 2 "_law_is_list" ["found", "due"] (sp_law_is_list K)) : FnOk P w K mg base CX0 5 f fd ["script"] (sp_law K) := by
  refine F.ok sc_law (fun vs H Q E h => ?_) (fun cdv A outer s H vs Q E hr h => ?_)
  · obtain ⟨a, ns, rfl, _⟩ := h
    rfl
  · obtain ⟨a, ns, rfl, hS, h63, q⟩ := h
    refine ⟨_, (pss_cons (ps_set (i := 1) sc_law.nd rfl (.inl rfl) (pe_c C_law_table_by hr (by decide) pass0 (pa_cons (pv 0) (pa_cons pe_int (pa_cons pe_int pa_nil)))))
      (pss_cons (ps_set (i := 2) sc_law.nd rfl (.inl rfl) pe_str)
      (pss_cons (ps_for PassesOwn.never rfl (pi_range1 (by rfl) m_range (pa_cons (pe_callB (lenK (K := K)) (by rfl) m_len PySem.boot_len (pa_cons (pv 1) pa_nil)) pa_nil)) (pg_name (i := 3) sc_law.nd rfl (.inl rfl))
        (C8.pss_cut (ps_if (pt_cmpR op_gt (pv 3) pe_int (nomark _))
          (pss_one (ps_set (i := 2) sc_law.nd rfl (.inl rfl) (pe_op op_add_str (pv 2) pe_str)))
          pss_nil)
        (pss_one (ps_for PassesOwn.never rfl (pi_listK (K := K) (pe_ix (ixK (K := K)) (pv 1) (pv 3) (fun _ _ => rfl))) (pg_name (i := 4) sc_law.nd rfl (.inl rfl))
          (pss_one (ps_set (i := 2) sc_law.nd rfl (.inl rfl) (pe_op op_add_str (pv 2) (pe_ix ix_str pe_str (pv 4) (fun _ _ => rfl)))))))))
      (pss_cons (ps_setLc (i := 5) (own := [("bar", 6)]) (g := gName 6) (tt := tYes) rfl sc_law.nd rfl rfl (sw_true rfl rfl rfl (by decide +kernel)) (pi_listK (K := K) (pv 1)) (blkOk_by (N := N_law) (sc := defScope s_law) (by decide +kernel)) (fun _ _ _ _ _ => (pg_name (i := 6) sc_law.nd rfl (.inl rfl))) (fun _ _ _ _ _ => pts_nil) (fun _ _ _ _ _ => (pe_callTy (listK (K := K)) (by rfl) m_list (by decide +kernel) (pa_cons (pv 6) pa_nil))))
      (pss_cons (ps_set (i := 7) sc_law.nd rfl (.inl rfl) (pe_c C_shown hr (by decide) pass0 (pa_cons (pv 5) pa_nil)))
      (pss_cons (ps_if (PW.pt (pw_or (pt_not (pt_val (pe_callB (isiK (K := K)) (by rfl) m_isinstance (by decide +kernel) (pa_cons (pv 7) (pa_cons (pe_bltn (v := .ty "str") (by rfl) m_str (by decide +kernel) rfl) pa_nil))))) (pw_or (pt_cmpR op_ne (pv 7) (pv 2) (nomark _)) (pw_or1 (pt_cmpR (neDK (K := K) hr.units) (pv 5) (pv 1) (nomark _))))))
        (pss_one (ps_ret pe_bl))
        pss_nil)
      (pss_cons (ps_for PassesOwn.never rfl (pi_range1 (by rfl) m_range (pa_cons pe_int pa_nil)) (pg_name (i := 8) sc_law.nd rfl (.inl rfl))
        (pss_cons (ps_set (i := 9) sc_law.nd rfl (.inl rfl) (pe_c C_read hr (by decide) pass0 (pa_cons (pv 7) pa_nil)))
        (pss_cons (ps_if (PW.pt (pw_or (pt_not (pt_val (pe_callB (isiK (K := K)) (by rfl) m_isinstance (by decide +kernel) (pa_cons (pv 9) (pa_cons (pe_bltn (v := .ty "list") (by rfl) m_list (by decide +kernel) rfl) pa_nil))))) (pw_or1 (pt_cmpR op_ne (pe_callB (lenK (K := K)) (by rfl) m_len PySem.boot_len (pa_cons (pv 9) pa_nil)) (pe_callB (lenK (K := K)) (by rfl) m_len PySem.boot_len (pa_cons (pv 1) pa_nil)) (nomark _)))))
          (pss_one (ps_ret pe_bl))
          pss_nil)
        (pss_cons (ps_for PassesOwn.never rfl (pi_range1 (by rfl) m_range (pa_cons (pe_callB (lenK (K := K)) (by rfl) m_len PySem.boot_len (pa_cons (pv 1) pa_nil)) pa_nil)) (pg_name (i := 3) sc_law.nd rfl (.inl rfl))
          (pss_cons (ps_if (pt_not (pt_val (pe_c C_law_is_list hr (by decide) pass0 (pa_cons (pe_ix (ixK (K := K)) (pv 9) (pv 3) (fun _ _ => rfl)) (pa_cons (pe_ix (ixK (K := K)) (pv 1) (pv 3) (fun _ _ => rfl)) pa_nil)))))
            (pss_one (ps_ret pe_bl))
            pss_nil)
          (pss_one (ps_expr (pe_bmK (K := K) PySem.F.plainAttrs_list PySem.F.slot_list_append PySem.F.type_list_append mt_append (pe_ix (ixK (K := K)) (pv 9) (pv 3) (fun _ _ => rfl)) (pa_cons pe_int pa_nil))))))
        (pss_one (ps_expr (pe_bmK (K := K) PySem.F.plainAttrs_list PySem.F.slot_list_append PySem.F.type_list_append mt_append (pv 9) (pa_cons (pe_lst (pa_cons pe_int pa_nil)) pa_nil))))))))
      (pss_one (ps_ret pe_bl))))))))), ?_⟩
    refine ⟨_, rfl, a, ns, 0, 5, rfl, hS, by decide, by decide, fun H1 T xs ds s1 nT hT lT it => ?_⟩
    have exl : xs.length = ds.length := lT.length
    have l3 := it.le
    -- due
    refine ⟨_, rfl, T, _, rfl, .inl (SqL.of hT), _, rfl, by omega, by omega, for_range (lo := 0) (fun i σ H' => ∃ y3 y4 : Option V, σ = [some (.ref a), some (.ref T), some (.str (noteS (ds.take i))), y3, y4, none, none, none, none, none] ∧ H' = H1) ⟨none, none, by rw [List.take_zero, noteS_nil]; rfl, rfl⟩ ?_ ?_⟩
    · rintro i σ H2 hi ⟨y3, y4, rfl, rfl⟩
      rw [exl, Int.toNat_natCast] at hi
      have he := List.getElem?_eq_getElem hi
      generalize ds[i] = d at he
      have ib := it.is d (List.mem_of_getElem? he)
      have d5 := ib.le
      obtain ⟨t, ht, hdt⟩ := lT.get he
      have hnl := note_len (ds := ds.take i) (by rw [List.length_take]; omega) fun e h => it.is e (List.mem_of_mem_take h)
      have et : ds.take i = [] ↔ i = 0 := by
        constructor
        · intro h
          have := congrArg List.length h
          rw [List.length_take, List.length_nil] at this
          omega
        · rintro rfl
          rfl
      rw [Int.zero_add]
      -- the text ahead of the bar's signs
      refine ⟨fun σ' H' => σ' = [some (.ref a), some (.ref T), some (.str (if i = 0 then Str.ofString "" else noteS (ds.take i) ++ blank)), some (.int (i : Nat)), y4, none, none, none, none, none] ∧ H' = H2, ?_, ?_⟩
      · refine ⟨_, rfl, _, _, rfl, rfl, _, rfl, d2_ (fun c => ?_) (fun c => ?_)⟩
        · refine ⟨_, rfl, _, _, rfl, rfl, ?_, ?_, rfl⟩
          · have e1 : (Str.ofString " ").length = 1 := by decide +kernel
            rw [e1]
            exact small (by omega)
          · rw [if_neg (by omega)]
            all_goals rfl
        · have e0 : i = 0 := by omega
          subst e0
          refine ⟨?_, rfl⟩
          rw [if_pos rfl, List.take_zero, noteS_nil]
          all_goals rfl
      rintro σ' H3 ⟨rfl, rfl⟩
      have hd2 : atI xs (i : Int) = some (V.ref t) := atI_nat ht
      have hpre : (if i = 0 then Str.ofString "" else noteS (ds.take i) ++ blank).length ≤ 19 := by
        split
        · have e1 : (Str.ofString "").length = 0 := by decide +kernel
          omega
        · have e1 : (noteS (ds.take i) ++ blank).length = (noteS (ds.take i)).length + 1 := by
            rw [TL.len_tl, TL.tl_append, List.length_append, tl_blank, ← TL.len_tl]
            rfl
          omega
      generalize hp0 : (if i = 0 then Str.ofString "" else noteS (ds.take i) ++ blank) = p0 at hpre
      refine ⟨_, rfl, _, rfl, T, _, _, _, rfl, rfl, SqL.of hT, hd2, t, rfl, ⟨_, SqL.of hdt⟩, for_list (K := K) (a := t) (xs := d.map V.int) (fun j σ H' => ∃ y4 : Option V, σ = [some (.ref a), some (.ref T), some (.str (p0 ++ wordS (d.take j))), some (.int (i : Nat)), y4, none, none, none, none, none] ∧ H' = H3)
        ⟨y4, by rw [List.take_zero, show p0 ++ wordS [] = p0 from TL.ext_tl (by rw [TL.tl_append, tl_wordS]; exact List.append_nil _)], rfl⟩ (fun _ _ _ _ ⟨_, _, e⟩ => e ▸ SqL.of hdt) ?_ ?_⟩
      · rintro j x σ H4 hj ⟨y4, rfl, rfl⟩
        obtain ⟨u, hu, rfl⟩ := map_get hj
        have hu5 := ib.rg u (List.mem_of_getElem? hu)
        have fa := (fig_at hu5.1 hu5.2).2.2
        refine ⟨_, rfl, _, rfl, _, u, _, rfl, rfl, ?_, fa, _, _, rfl, rfl, ?_, some (.int u), ?_, rfl⟩
        · have e1 : (Str.ofString "012345").length = 6 := by decide +kernel
          rw [e1]
          exact small (by omega)
        · rw [TL.len_tl, TL.tl_append, List.length_append, ← TL.len_tl, tl_wordS]
          unfold codesW
          rw [List.length_map, List.length_take]
          show _ + 1 ≤ sizeLine
          exact small (by omega)
        · have e1 : p0 ++ wordS (d.take j) ++ (⟨#[48 + u.toNat]⟩ : Str) = p0 ++ wordS (d.take (j + 1)) := by
            refine TL.ext_tl ?_
            rw [TL.tl_append, TL.tl_append, TL.tl_append, tl_wordS, tl_wordS, take_more hu]
            unfold codesW
            rw [List.map_append, List.append_assoc]
            rfl
          rw [← e1]
          all_goals rfl
      · rintro σ H4 ⟨y4, rfl, rfl⟩
        rw [List.length_map, List.take_length]
        refine ⟨some (.int (i : Nat)), y4, ?_, rfl⟩
        have e1 : p0 ++ wordS d = noteS (ds.take (i + 1)) := by
          rw [take_more he, note_snoc]
          by_cases h0 : i = 0
          · rw [if_pos (et.mpr h0), ← hp0, if_pos h0]
            exact TL.ext_tl (by rw [TL.tl_append, show TL.tl (Str.ofString "") = [] from by decide +kernel]; rfl)
          · rw [if_neg (fun z => h0 (et.mp z)), ← hp0, if_neg h0]
        rw [← e1]
        all_goals rfl
    · rintro σ H2 ⟨y3, y4, rfl, rfl⟩
      rw [exl, Int.toNat_natCast, List.take_length]
      -- handed
      refine ⟨_, rfl, T, rfl, ⟨_, SqL.of hT⟩, fun G nG => ?_⟩
      refine copy_loop (T := T) (xs := xs) (ds := ds) (by show 6 < 10; omega) (SqL.of hT) lT (by omega) nG fun H3 hs s3 hG lG _ => ?_
      refine ⟨_, rfl, G, hs, ds, rfl, hG, lG, it, fun H4 s4 => ?_⟩
      refine ⟨_, rfl, _, _, _, _, true, rfl, .ty _, .base (.str _), kit_ty (by decide +kernel), true, rfl, iteF ?_⟩
      refine ⟨_, rfl, _, rfl, rfl, _, rfl, nF_ rfl ?_⟩
      have s34 := s3.trans s4
      have hT4 := s34 _ _ hT
      have lT4 := lT.same s34
      refine ⟨_, rfl, _, rfl, _, _, dp_table (SqL.of (s4 _ _ hG)) (lG.same s4), dp_table (SqL.of hT4) lT4, shaped_lsts _, shaped_lsts _, _, rfl, ?_⟩
      rw [eqv_table, decide_eq_true rfl]
      refine iteF ?_
      -- read twice
      refine ⟨_, rfl, by decide, by decide, for_range (lo := 0) (fun i σ H' => ∃ y3 y8 y9 : Option V, σ = [some (.ref a), some (.ref T), some (.str (noteS ds)), y3, y4, some (.ref G), none, some (.str (noteS ds)), y8, y9] ∧ Same H4 H') ⟨y3, none, none, rfl, Same.refl _⟩ ?_ ?_⟩
      · rintro i σ H5 hi ⟨y3, y8, y9, rfl, s5⟩
        refine ⟨_, rfl, ds, rfl, it, fun H6 p ys s6 np hp ly ny nd nm => ?_⟩
        have eyl : ys.length = ds.length := ly.length
        have s56 := s5.trans s6
        have hT6 := s56 _ _ hT4
        have lT6 := lT4.same s56
        have old : ∀ {b : Addr} {o : HO}, H4 b = some o → V.ref b ∉ ys := fun {b o} h hm => by
          have := ny _ hm b rfl
          have h5 := s5 _ _ h
          rw [this] at h5
          cases h5
        refine ⟨_, rfl, _, _, _, _, true, rfl, .ty _, .base (.lst hp), kit_ty (by decide +kernel), true, rfl, iteF ?_⟩
        refine ⟨_, rfl, p, _, rfl, .inl (SqL.of hp), _, rfl, T, _, rfl, .inl (SqL.of hT6), rfl, _, rfl, nF_ (by rw [eyl, exl]) ?_⟩
        refine ⟨_, rfl, T, _, rfl, .inl (SqL.of hT6), _, rfl, by omega, by omega, for_range (lo := 0) (fun k σ H' => ∃ y3 : Option V, σ = [some (.ref a), some (.ref T), some (.str (noteS ds)), y3, y4, some (.ref G), none, some (.str (noteS ds)), some (.int (0 + (i : Int))), some (.ref p)] ∧
            ∀ b o, V.ref b ∉ ys.take k → H6 b = some o → H' b = some o) ⟨y3, rfl, fun _ _ _ h => h⟩ ?_ ?_⟩
        · rintro k σ H7 hk ⟨y3, rfl, k7⟩
          rw [exl, Int.toNat_natCast] at hk
          have he := List.getElem?_eq_getElem hk
          generalize ds[k] = d at he
          have ib := it.is d (List.mem_of_getElem? he)
          have d5 := ib.le
          obtain ⟨t, ht, hdt⟩ := ly.get he
          obtain ⟨u, hu, hdu⟩ := lT4.get he
          have nt : V.ref t ∉ ys.take k := fun hm => by
            obtain ⟨j, hj⟩ := List.mem_iff_getElem?.mp hm
            have hjk : j < k := by
              have := (List.getElem?_eq_some_iff.mp hj).1
              rw [List.length_take] at this
              omega
            rw [List.getElem?_take_of_lt hjk] at hj
            have := nd_ix nd hj ht
            omega
          have np' : V.ref p ∉ ys.take k := fun hm => nm (List.mem_of_mem_take hm)
          have nT' : V.ref T ∉ ys.take k := fun hm => old hT4 (List.mem_of_mem_take hm)
          have nu' : V.ref u ∉ ys.take k := fun hm => old hdu (List.mem_of_mem_take hm)
          have ht7 := k7 _ _ nt hdt
          have hp7 := k7 _ _ np' hp
          have hT7 := k7 _ _ nT' hT6
          have hu7 := k7 _ _ nu' (s56 _ _ hdu)
          rw [Int.zero_add]
          refine ⟨_, rfl, _, rfl, p, _, _, _, rfl, rfl, SqL.of hp7, atI_nat ht, _, rfl, _, rfl, T, _, _, _, rfl, rfl, SqL.of hT7, atI_nat hu, t, u, d, rfl, ht7, hu7, by omega, true, rfl, iteF ?_⟩
          refine ⟨_, rfl, _, rfl, p, _, _, _, rfl, rfl, SqL.of hp7, atI_nat ht, .inl ⟨rfl, _, SqL.of ht7⟩, t, _, _, rfl, rfl, ht7, by rw [List.length_map]; exact small' (by omega), _, rfl, fun b o hb h => ?_⟩
          rw [take_more ht] at hb
          have hbt : b ≠ t := fun z => hb (List.mem_append_right _ (by rw [z]; exact List.mem_singleton.mpr rfl))
          rw [upd_ne hbt]
          exact k7 _ _ (fun z => hb (List.mem_append_left _ z)) h
        · rintro σ H7 ⟨y3, rfl, k7⟩
          rw [exl, Int.toNat_natCast, ← eyl, List.take_length] at k7
          have hp7 := k7 _ _ nm hp
          refine ⟨_, rfl, .inl ⟨rfl, _, SqL.of hp7⟩, by show 1 ≤ sizeLine; decide, fun l nl => ?_⟩
          refine ⟨p, _, _, rfl, rfl, sNew nl _ _ hp7, small' (by omega), _, _, _, rfl, ?_⟩
          intro b o h
          have hb : V.ref b ∉ ys := old h
          have bp : b ≠ p := ne_of_none (s5 _ _ h) np
          rw [upd_ne bp]
          exact sNew nl _ _ (k7 _ _ hb (s56 _ _ h))
      · rintro σ H5 ⟨y3, y8, y9, rfl, s5⟩
        exact q _
end
theorem all_mk {l : PySem.W.OpenLaw} {w : World} {K : PySem.W.Frag} {h : Heap} {mg : Str → Option Value} {fa f0 f1 f2 f3 f4 f5 f6 f7 f8 f9 f10 f11 : Addr} (X : K.In h) (G : h.Ns mainGlobals mg) (hfa : mg "law" = some (.ref fa))
    {od0 an0 od1 an1 od2 an2 od3 an3 od4 an4 od5 an5 od6 an6 od7 an7 od8 an8 od9 an9 od10 an10 od11 an11 : Option Addr} {sl0 sl1 sl2 sl3 sl4 sl5 sl6 sl7 sl8 sl9 sl10 sl11 : Array (Option Value)} {oc0 kV0 dc0 pm0 cd0 ct0 oc1 kV1 dc1 pm1 cd1 ct1 oc2 kV2 dc2 pm2 cd2 ct2 oc3 kV3 dc3 pm3 cd3 ct3 oc4 kV4 dc4 pm4 cd4 ct4 oc5 kV5 dc5 pm5 cd5 ct5 oc6 kV6 dc6 pm6 cd6 ct6 oc7 kV7 dc7 pm7 cd7 ct7 oc8 kV8 dc8 pm8 cd8 ct8 oc9 kV9 dc9 pm9 cd9 ct9 oc10 kV10 dc10 pm10 cd10 ct10 oc11 kV11 dc11 pm11 cd11 ct11 : Value}
    (a0 : PySem.W.nsIn K mainGlobals "is_bar" = some (some (.ref f0))) (l0 : K.lookup f0 = some ⟨oc0, od0, .func (PySem.W.fnOf "is_bar" "is_bar" (defArgs s_is_bar) (defBody s_is_bar) (defScope s_is_bar) .none kV0 dc0 pm0 an0 cd0 ct0), sl0⟩) (c0 : PySem.W.codeIn K cd0 "is_bar" = true) (k0 : PySem.W.keepIn K (.ref f0) = true)
    (a1 : PySem.W.nsIn K mainGlobals "asked_bar" = some (some (.ref f1))) (l1 : K.lookup f1 = some ⟨oc1, od1, .func (PySem.W.fnOf "asked_bar" "asked_bar" (defArgs s_asked_bar) (defBody s_asked_bar) (defScope s_asked_bar) .none kV1 dc1 pm1 an1 cd1 ct1), sl1⟩) (c1 : PySem.W.codeIn K cd1 "asked_bar" = true) (k1 : PySem.W.keepIn K (.ref f1) = true)
    (a2 : PySem.W.nsIn K mainGlobals "asked_table" = some (some (.ref f2))) (l2 : K.lookup f2 = some ⟨oc2, od2, .func (PySem.W.fnOf "asked_table" "asked_table" (defArgs s_asked_table) (defBody s_asked_table) (defScope s_asked_table) .none kV2 dc2 pm2 an2 cd2 ct2), sl2⟩) (c2 : PySem.W.codeIn K cd2 "asked_table" = true) (k2 : PySem.W.keepIn K (.ref f2) = true)
    (a3 : PySem.W.nsIn K mainGlobals "shown" = some (some (.ref f3))) (l3 : K.lookup f3 = some ⟨oc3, od3, .func (PySem.W.fnOf "shown" "shown" (defArgs s_shown) (defBody s_shown) (defScope s_shown) .none kV3 dc3 pm3 an3 cd3 ct3), sl3⟩) (c3 : PySem.W.codeIn K cd3 "shown" = true) (k3 : PySem.W.keepIn K (.ref f3) = true)
    (a4 : PySem.W.nsIn K mainGlobals "bar_of" = some (some (.ref f4))) (l4 : K.lookup f4 = some ⟨oc4, od4, .func (PySem.W.fnOf "bar_of" "bar_of" (defArgs s_bar_of) (defBody s_bar_of) (defScope s_bar_of) .none kV4 dc4 pm4 an4 cd4 ct4), sl4⟩) (c4 : PySem.W.codeIn K cd4 "bar_of" = true) (k4 : PySem.W.keepIn K (.ref f4) = true)
    (a5 : PySem.W.nsIn K mainGlobals "read" = some (some (.ref f5))) (l5 : K.lookup f5 = some ⟨oc5, od5, .func (PySem.W.fnOf "read" "read" (defArgs s_read) (defBody s_read) (defScope s_read) .none kV5 dc5 pm5 an5 cd5 ct5), sl5⟩) (c5 : PySem.W.codeIn K cd5 "read" = true) (k5 : PySem.W.keepIn K (.ref f5) = true)
    (a6 : PySem.W.nsIn K mainGlobals "_law_cell_at" = some (some (.ref f6))) (l6 : K.lookup f6 = some ⟨oc6, od6, .func (PySem.W.fnOf "_law_cell_at" "_law_cell_at" (defArgs s_law_cell_at) (defBody s_law_cell_at) (defScope s_law_cell_at) .none kV6 dc6 pm6 an6 cd6 ct6), sl6⟩) (c6 : PySem.W.codeIn K cd6 "_law_cell_at" = true) (k6 : PySem.W.keepIn K (.ref f6) = true)
    (a7 : PySem.W.nsIn K mainGlobals "_law_whole" = some (some (.ref f7))) (l7 : K.lookup f7 = some ⟨oc7, od7, .func (PySem.W.fnOf "_law_whole" "_law_whole" (defArgs s_law_whole) (defBody s_law_whole) (defScope s_law_whole) .none kV7 dc7 pm7 an7 cd7 ct7), sl7⟩) (c7 : PySem.W.codeIn K cd7 "_law_whole" = true) (k7 : PySem.W.keepIn K (.ref f7) = true)
    (a8 : PySem.W.nsIn K mainGlobals "_law_is_list" = some (some (.ref f8))) (l8 : K.lookup f8 = some ⟨oc8, od8, .func (PySem.W.fnOf "_law_is_list" "_law_is_list" (defArgs s_law_is_list) (defBody s_law_is_list) (defScope s_law_is_list) .none kV8 dc8 pm8 an8 cd8 ct8), sl8⟩) (c8 : PySem.W.codeIn K cd8 "_law_is_list" = true) (k8 : PySem.W.keepIn K (.ref f8) = true)
    (a9 : PySem.W.nsIn K mainGlobals "_law_bar_by" = some (some (.ref f9))) (l9 : K.lookup f9 = some ⟨oc9, od9, .func (PySem.W.fnOf "_law_bar_by" "_law_bar_by" (defArgs s_law_bar_by) (defBody s_law_bar_by) (defScope s_law_bar_by) .none kV9 dc9 pm9 an9 cd9 ct9), sl9⟩) (c9 : PySem.W.codeIn K cd9 "_law_bar_by" = true) (k9 : PySem.W.keepIn K (.ref f9) = true)
    (a10 : PySem.W.nsIn K mainGlobals "_law_table_by" = some (some (.ref f10))) (l10 : K.lookup f10 = some ⟨oc10, od10, .func (PySem.W.fnOf "_law_table_by" "_law_table_by" (defArgs s_law_table_by) (defBody s_law_table_by) (defScope s_law_table_by) .none kV10 dc10 pm10 an10 cd10 ct10), sl10⟩) (c10 : PySem.W.codeIn K cd10 "_law_table_by" = true) (k10 : PySem.W.keepIn K (.ref f10) = true)
    (a11 : PySem.W.nsIn K mainGlobals "law" = some (some (.ref f11))) (l11 : K.lookup f11 = some ⟨oc11, od11, .func (PySem.W.fnOf "law" "law" (defArgs s_law) (defBody s_law) (defScope s_law) .none kV11 dc11 pm11 an11 cd11 ct11), sl11⟩) (c11 : PySem.W.codeIn K cd11 "law" = true) (k11 : PySem.W.keepIn K (.ref f11) = true)
    (z_len : PySem.W.nsIn K mainGlobals "len" = some none)
    (z_str : PySem.W.nsIn K mainGlobals "str" = some none)
    (z_isinstance : PySem.W.nsIn K mainGlobals "isinstance" = some none)
    (z_int : PySem.W.nsIn K mainGlobals "int" = some none)
    (z_bool : PySem.W.nsIn K mainGlobals "bool" = some none)
    (z_range : PySem.W.nsIn K mainGlobals "range" = some none)
    (z_list : PySem.W.nsIn K mainGlobals "list" = some none)
    (z_sorted : PySem.W.nsIn K mainGlobals "sorted" = some none)
    {t_MOST_ROWS : Tok} (y_MOST_ROWS : PySem.W.nsIn K mainGlobals "MOST_ROWS" = some (some (.int 5 t_MOST_ROWS)))
    {t_MOST_PIECES : Tok} (y_MOST_PIECES : PySem.W.nsIn K mainGlobals "MOST_PIECES" = some (some (.int 5 t_MOST_PIECES)))
    {t_MOST : Tok} (y_MOST : PySem.W.nsIn K mainGlobals "MOST" = some (some (.int 3 t_MOST)))
    {t_FIGURES : Tok} (y_FIGURES : PySem.W.nsIn K mainGlobals "FIGURES" = some (some (.str (PySem.Str.ofString "12345") t_FIGURES)))
    : ∃ fd : FuncData, (∀ (s : Shared) (v : Value), BindsTo s fd ⟨[v], []⟩ [("script", v)]) ∧ ∀ base : Heap, K.In base → base.Ns mainGlobals mg → FnOk l.prog w K mg base CX0 60 fa fd ["script"] (sp_law K) := by
  have e := hfa.symm.trans (PySem.W.mg_of X G a11)
  cases e
  have m_len := PySem.W.mg_none_of X G z_len
  have m_str := PySem.W.mg_none_of X G z_str
  have m_isinstance := PySem.W.mg_none_of X G z_isinstance
  have m_int := PySem.W.mg_none_of X G z_int
  have m_bool := PySem.W.mg_none_of X G z_bool
  have m_range := PySem.W.mg_none_of X G z_range
  have m_list := PySem.W.mg_none_of X G z_list
  have m_sorted := PySem.W.mg_none_of X G z_sorted
  have g_MOST_ROWS := PySem.W.mg_of X G y_MOST_ROWS
  have g_MOST_PIECES := PySem.W.mg_of X G y_MOST_PIECES
  have g_MOST := PySem.W.mg_of X G y_MOST
  have g_FIGURES := PySem.W.mg_of X G y_FIGURES
  have F0 := fun_mk (st := s_is_bar) l0 c0 k0
  have b0 := F0.binds (ps := ["bar"]) fun _ _ _ _ _ _ us hl => match us, hl with | [_], _ => rfl
  have F1 := fun_mk (st := s_asked_bar) l1 c1 k1
  have b1 := F1.binds (ps := ["bar"]) fun _ _ _ _ _ _ us hl => match us, hl with | [_], _ => rfl
  have F2 := fun_mk (st := s_asked_table) l2 c2 k2
  have b2 := F2.binds (ps := ["table"]) fun _ _ _ _ _ _ us hl => match us, hl with | [_], _ => rfl
  have F3 := fun_mk (st := s_shown) l3 c3 k3
  have b3 := F3.binds (ps := ["table"]) fun _ _ _ _ _ _ us hl => match us, hl with | [_], _ => rfl
  have F4 := fun_mk (st := s_bar_of) l4 c4 k4
  have b4 := F4.binds (ps := ["word"]) fun _ _ _ _ _ _ us hl => match us, hl with | [_], _ => rfl
  have F5 := fun_mk (st := s_read) l5 c5 k5
  have b5 := F5.binds (ps := ["text"]) fun _ _ _ _ _ _ us hl => match us, hl with | [_], _ => rfl
  have F6 := fun_mk (st := s_law_cell_at) l6 c6 k6
  have b6 := F6.binds (ps := ["script", "k"]) fun _ _ _ _ _ _ us hl => match us, hl with | [_, _], _ => rfl
  have F7 := fun_mk (st := s_law_whole) l7 c7 k7
  have b7 := F7.binds (ps := ["found"]) fun _ _ _ _ _ _ us hl => match us, hl with | [_], _ => rfl
  have F8 := fun_mk (st := s_law_is_list) l8 c8 k8
  have b8 := F8.binds (ps := ["found", "due"]) fun _ _ _ _ _ _ us hl => match us, hl with | [_, _], _ => rfl
  have F9 := fun_mk (st := s_law_bar_by) l9 c9 k9
  have b9 := F9.binds (ps := ["cell", "most"]) fun _ _ _ _ _ _ us hl => match us, hl with | [_, _], _ => rfl
  have F10 := fun_mk (st := s_law_table_by) l10 c10 k10
  have b10 := F10.binds (ps := ["script", "at", "most"]) fun _ _ _ _ _ _ us hl => match us, hl with | [_, _, _], _ => rfl
  have F11 := fun_mk (st := s_law) l11 c11 k11
  refine ⟨PySem.W.fnOf "law" "law" (defArgs s_law) (defBody s_law) (defScope s_law) .none kV11 dc11 pm11 an11 cd11 ct11, fun s v => .of_eq rfl, fun base _ _ => ?_⟩
  have C_is_bar := Cal.mk ⟨_, _, ok_is_bar (P := l.prog) (w := w) (base := base) F0 (m_len := m_len) (g_MOST_ROWS := g_MOST_ROWS) (g_MOST_PIECES := g_MOST_PIECES), PySem.W.mg_of X G a0, k0, b0⟩
  have C_asked_bar := Cal.mk ⟨_, _, ok_asked_bar (P := l.prog) (w := w) (base := base) F1 (C_is_bar := C_is_bar), PySem.W.mg_of X G a1, k1, b1⟩
  have C_asked_table := Cal.mk ⟨_, _, ok_asked_table (P := l.prog) (w := w) (base := base) F2 (m_len := m_len) (g_MOST := g_MOST) (C_asked_bar := C_asked_bar), PySem.W.mg_of X G a2, k2, b2⟩
  have C_shown := Cal.mk ⟨_, _, ok_shown (P := l.prog) (w := w) (base := base) F3 (m_str := m_str) (C_asked_table := C_asked_table), PySem.W.mg_of X G a3, k3, b3⟩
  have C_bar_of := Cal.mk ⟨_, _, ok_bar_of (P := l.prog) (w := w) (base := base) F4 (g_FIGURES := g_FIGURES) (C_is_bar := C_is_bar), PySem.W.mg_of X G a4, k4, b4⟩
  have C_read := Cal.mk ⟨_, _, ok_read (P := l.prog) (w := w) (base := base) F5 (m_len := m_len) (g_MOST := g_MOST) (C_bar_of := C_bar_of), PySem.W.mg_of X G a5, k5, b5⟩
  have C_law_cell_at := Cal.mk ⟨_, _, ok_law_cell_at (P := l.prog) (w := w) (base := base) F6 (m_len := m_len), PySem.W.mg_of X G a6, k6, b6⟩
  have C_law_whole := Cal.mk ⟨_, _, ok_law_whole (P := l.prog) (w := w) (base := base) F7 (m_isinstance := m_isinstance) (m_int := m_int) (m_bool := m_bool), PySem.W.mg_of X G a7, k7, b7⟩
  have C_law_is_list := Cal.mk ⟨_, _, ok_law_is_list (P := l.prog) (w := w) (base := base) F8 (m_len := m_len) (m_range := m_range) (m_isinstance := m_isinstance) (m_list := m_list) (C_law_whole := C_law_whole), PySem.W.mg_of X G a8, k8, b8⟩
  have C_law_bar_by := Cal.mk ⟨_, _, ok_law_bar_by (P := l.prog) (w := w) (base := base) F9 (m_range := m_range) (m_sorted := m_sorted), PySem.W.mg_of X G a9, k9, b9⟩
  have C_law_table_by := Cal.mk ⟨_, _, ok_law_table_by (P := l.prog) (w := w) (base := base) F10 (m_range := m_range) (C_law_cell_at := C_law_cell_at) (C_law_bar_by := C_law_bar_by), PySem.W.mg_of X G a10, k10, b10⟩
  exact (ok_law (P := l.prog) (w := w) (base := base) F11 (m_list := m_list) (m_len := m_len) (m_range := m_range) (m_isinstance := m_isinstance) (m_str := m_str) (C_law_table_by := C_law_table_by) (C_shown := C_shown) (C_read := C_read) (C_law_is_list := C_law_is_list)).mono (by decide)
end Bb
open PySem PySem.W PyProof.Rows
set_option maxRecDepth 100000 in
set_option maxHeartbeats 0 in
theorem PySem.Challenge.cw_bitebar_k14_written_holds : PySem.Challenge.rw_bitebar_k14_written.Holds := by
  w_on; o_law; k_head; (case hw => w_witness2)
  k_fill
  refine L2.walk_of (l := PySem.Challenge.rw_bitebar_k14_written) (n := 63) (k := 60) (x := "script") (CX := fun _ => L2.CX0) (sp := fun w => Bb.sp_law _) rfl (by decide) rfl ⟨rfl, by decide, by decide⟩ (fun w h Y => PySem.W.kIn_of Y) ?F (fun _ H a ns hl _ hS => ⟨a, ns, rfl, hS, hl, fun _ => rfl⟩) (fun _ _ _ _ _ h => h)
  case F =>
    intro w mg fa h KX G hmg
    refine' Bb.all_mk KX G hmg ?a0 ?l0 ?c0 ?k0 ?a1 ?l1 ?c1 ?k1 ?a2 ?l2 ?c2 ?k2 ?a3 ?l3 ?c3 ?k3 ?a4 ?l4 ?c4 ?k4 ?a5 ?l5 ?c5 ?k5 ?a6 ?l6 ?c6 ?k6 ?a7 ?l7 ?c7 ?k7 ?a8 ?l8 ?c8 ?k8 ?a9 ?l9 ?c9 ?k9 ?a10 ?l10 ?c10 ?k10 ?a11 ?l11 ?c11 ?k11 ?z_len ?z_str ?z_isinstance ?z_int ?z_bool ?z_range ?z_list ?z_sorted ?y_MOST_ROWS ?y_MOST_PIECES ?y_MOST ?y_FIGURES
    (case a0 => k_is); (case l0 => k_is); (case c0 => k_is); (case k0 => k_is); (case a1 => k_is); (case l1 => k_is); (case c1 => k_is); (case k1 => k_is); (case a2 => k_is); (case l2 => k_is); (case c2 => k_is); (case k2 => k_is); (case a3 => k_is); (case l3 => k_is); (case c3 => k_is); (case k3 => k_is); (case a4 => k_is); (case l4 => k_is); (case c4 => k_is); (case k4 => k_is); (case a5 => k_is); (case l5 => k_is); (case c5 => k_is); (case k5 => k_is); (case a6 => k_is); (case l6 => k_is); (case c6 => k_is); (case k6 => k_is); (case a7 => k_is); (case l7 => k_is); (case c7 => k_is); (case k7 => k_is); (case a8 => k_is); (case l8 => k_is); (case c8 => k_is); (case k8 => k_is); (case a9 => k_is); (case l9 => k_is); (case c9 => k_is); (case k9 => k_is); (case a10 => k_is); (case l10 => k_is); (case c10 => k_is); (case k10 => k_is); (case a11 => k_is); (case l11 => k_is); (case c11 => k_is); (case k11 => k_is); (case z_len => k_is); (case z_str => k_is); (case z_isinstance => k_is); (case z_int => k_is); (case z_bool => k_is); (case z_range => k_is); (case z_list => k_is); (case z_sorted => k_is); (case y_MOST_ROWS => k_is); (case y_MOST_PIECES => k_is); (case y_MOST => k_is); (case y_FIGURES => k_is)
#print axioms PySem.Challenge.cw_bitebar_k14_written_holds
