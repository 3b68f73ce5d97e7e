import PyProof.Rows.All
import Wide.All
import OpenK.AllK
import Wide.FinOn
import HandS.ForMost
import HandS.SortKw
import HandS.Deep
import HandS.IsInst
import HandS.Codes
import HandS.ExcCtx
import HandS.ExcIs
import HandS.HotCalls
import KE.RegKIsAll
import PySem.Challenge.RW_bitebar_k02_bitten
set_option Elab.async false
set_option linter.all false
set_option maxRecDepth 100000
set_option maxHeartbeats 8000000
namespace Bb
open PySem PySem.Spec PyProof.Rows L2
/-! ### bars, bites -/
/-- a bar of at most m rows of at most m pieces -/
structure IsBar (m : Int) (b : List Int) : Prop where
  ne : 1 ≤ b.length
  le : (b.length : Int) ≤ m
  pw : b.Pairwise (· ≥ ·)
  rg : ∀ x ∈ b, 1 ≤ x ∧ x ≤ m
theorem IsBar.mono {m n : Int} {b : List Int} (h : IsBar m b) (hn : m ≤ n) : IsBar n b :=
  ⟨h.ne, Int.le_trans h.le hn, h.pw, fun x hx => ⟨(h.rg x hx).1, Int.le_trans (h.rg x hx).2 hn⟩⟩
/-- each row from 1 on, none greater than the one ahead -/
def falls (m : Int) : List Int → Bool
  | [] => true
  | x :: xs => decide (1 ≤ x ∧ x ≤ m) && falls x xs
def isBarB (b : List Int) : Bool := decide (1 ≤ b.length ∧ b.length ≤ 5) && falls 5 b
theorem falls_iff {m : Int} {b : List Int} : falls m b = true ↔ b.Pairwise (· ≥ ·) ∧ ∀ x ∈ b, 1 ≤ x ∧ x ≤ m := by
  induction b generalizing m with
  | nil => simp [falls]
  | cons x xs ih =>
    rw [falls, Bool.and_eq_true, decide_eq_true_eq, ih, List.pairwise_cons]
    constructor
    · rintro ⟨⟨h1, h2⟩, h3, h4⟩
      refine ⟨⟨fun y hy => (h4 y hy).2, h3⟩, fun y hy => ?_⟩
      rcases List.mem_cons.mp hy with rfl | hy
      · exact ⟨h1, h2⟩
      · exact ⟨(h4 y hy).1, Int.le_trans (h4 y hy).2 h2⟩
    · rintro ⟨⟨h1, h2⟩, h3⟩
      exact ⟨h3 x (List.mem_cons_self), h2, fun y hy => ⟨(h3 y (List.mem_cons_of_mem _ hy)).1, h1 y hy⟩⟩
theorem isBarB_iff {b : List Int} : isBarB b = true ↔ IsBar 5 b := by
  unfold isBarB
  rw [Bool.and_eq_true, decide_eq_true_eq, falls_iff]
  constructor
  · rintro ⟨⟨h1, h2⟩, h3, h4⟩
    exact ⟨h1, by omega, h3, h4⟩
  · rintro ⟨h1, h2, h3, h4⟩
    exact ⟨⟨h1, by omega⟩, h3, h4⟩
/-- the bites of row r, columns below n -/
def rowL (r : Nat) : Nat → List (Nat × Nat)
  | 0 => []
  | n + 1 => rowL r n ++ if 0 < r + n then [(r, n)] else []
def bitesFrom (r : Nat) : List Int → List (Nat × Nat)
  | [] => []
  | x :: xs => rowL r x.toNat ++ bitesFrom (r + 1) xs
def bitesL (b : List Int) : List (Nat × Nat) := bitesFrom 0 b
theorem bitesFrom_append (r : Nat) : ∀ (xs ys : List Int), bitesFrom r (xs ++ ys) = bitesFrom r xs ++ bitesFrom (r + xs.length) ys := by
  intro xs
  induction xs generalizing r with
  | nil => intro ys; simp [bitesFrom]
  | cons x xs ih =>
    intro ys
    rw [List.cons_append, bitesFrom, bitesFrom, ih, List.append_assoc, List.length_cons, Nat.add_assoc, Nat.add_comm 1 xs.length]
theorem take_more {α : Type} {l : List α} {i : Nat} {x : α} (h : l[i]? = some x) : l.take (i + 1) = l.take i ++ [x] := by
  rw [List.take_add_one, h]; rfl
theorem bitesL_more {b : List Int} {i : Nat} {x : Int} (h : b[i]? = some x) : bitesL (b.take (i + 1)) = bitesL (b.take i) ++ rowL i x.toNat := by
  have hi : i < b.length := (List.getElem?_eq_some_iff.mp h).1
  unfold bitesL
  rw [take_more h, bitesFrom_append, List.length_take, Nat.min_eq_left (Nat.le_of_lt hi), Nat.zero_add]
  simp [bitesFrom]
theorem rowL_len (r n : Nat) : (rowL r n).length ≤ n := by
  induction n with
  | zero => simp [rowL]
  | succ n ih => rw [rowL, List.length_append]; split <;> simp <;> omega
theorem mem_rowL {r n : Nat} {p : Nat × Nat} : p ∈ rowL r n ↔ p.1 = r ∧ p.2 < n ∧ 0 < r + p.2 := by
  induction n with
  | zero => simp [rowL]
  | succ n ih =>
    rw [rowL, List.mem_append, ih]
    obtain ⟨a, c⟩ := p
    constructor
    · rintro (⟨h1, h2, h3⟩ | h)
      · exact ⟨h1, by omega, h3⟩
      · split at h
        · simp at h; obtain ⟨h1, h2⟩ := h; subst h1 h2; exact ⟨rfl, by simp, by assumption⟩
        · cases h
    · rintro ⟨h1, h2, h3⟩
      simp only at h1 h2 h3
      subst h1
      by_cases e : c = n
      · subst e; right; rw [if_pos h3]; simp
      · left; exact ⟨rfl, by simp only; omega, h3⟩
theorem mem_bitesFrom {r : Nat} {b : List Int} {p : Nat × Nat} : p ∈ bitesFrom r b ↔ ∃ i x, b[i]? = some x ∧ p.1 = r + i ∧ (p.2 : Int) < x ∧ 0 < p.1 + p.2 := by
  induction b generalizing r with
  | nil => simp [bitesFrom]
  | cons y ys ih =>
    rw [bitesFrom, List.mem_append, mem_rowL, ih]
    constructor
    · rintro (⟨h1, h2, h3⟩ | ⟨i, x, h1, h2, h3, h4⟩)
      · exact ⟨0, y, rfl, by omega, by omega, by omega⟩
      · exact ⟨i + 1, x, by simpa using h1, by omega, h3, h4⟩
    · rintro ⟨i, x, h1, h2, h3, h4⟩
      cases i with
      | zero =>
        left
        have e : y = x := by simpa using h1
        subst e
        exact ⟨by omega, by omega, by omega⟩
      | succ i =>
        right
        exact ⟨i, x, by simpa using h1, by omega, h3, h4⟩
theorem mem_bitesL {b : List Int} {p : Nat × Nat} : p ∈ bitesL b ↔ ∃ x, b[p.1]? = some x ∧ (p.2 : Int) < x ∧ 0 < p.1 + p.2 := by
  unfold bitesL
  rw [mem_bitesFrom]
  constructor
  · rintro ⟨i, x, h1, h2, h3, h4⟩
    have e : p.1 = i := by omega
    subst e
    exact ⟨x, h1, h3, h4⟩
  · rintro ⟨x, h1, h2, h3⟩
    exact ⟨p.1, x, h1, by omega, h2, h3⟩
theorem bitesFrom_len (r : Nat) : ∀ (b : List Int), (∀ x ∈ b, x ≤ 5) → (bitesFrom r b).length ≤ 5 * b.length := by
  intro b
  induction b generalizing r with
  | nil => intro _; simp [bitesFrom]
  | cons x xs ih =>
    intro h
    have h1 := rowL_len r x.toNat
    have h2 := ih (r + 1) fun y hy => h y (List.mem_cons_of_mem _ hy)
    have h3 := h x List.mem_cons_self
    rw [bitesFrom, List.length_append, List.length_cons]
    omega
theorem bitesL_len {b : List Int} (h : IsBar 5 b) : (bitesL b).length ≤ 25 := by
  have := bitesFrom_len 0 b fun x hx => (h.rg x hx).2
  have := h.le
  unfold bitesL
  omega
theorem bitesL_take_len {b : List Int} (h : IsBar 5 b) (i : Nat) : (bitesL (b.take i)).length ≤ 25 := by
  have := bitesFrom_len 0 (b.take i) fun x hx => (h.rg x (List.mem_of_mem_take hx)).2
  have := h.le
  have : (b.take i).length ≤ b.length := by rw [List.length_take]; omega
  unfold bitesL
  omega
/-- the bar behind a bite -/
def behindL (b : List Int) (r c : Nat) : List Int := b.take r ++ if 0 < c then (b.drop r).map fun x => min x (c : Int) else []
/-! ### heaps -/
theorem sNew {H : Hp} {p : Addr} {o : HO} (h : H p = none) : Same H (upd H p o) := fun b x e => by
  rw [upd_ne (ne_of_none e h)]
  exact e
theorem sThen {H0 H : Hp} {p : Addr} {o : HO} (s : Same H0 H) (h : H p = none) : Same H0 (upd H p o) := s.trans (sNew h)
/-- an object that was not there at the start is written -/
theorem sPut {H0 H : Hp} {p : Addr} {o : HO} (s : Same H0 H) (h : H0 p = none) : Same H0 (upd H p o) := fun b x e => by
  rw [upd_ne (ne_of_none e h)]
  exact s b x e
/-- the tuples stay -/
def KT (H H' : Hp) : Prop := ∀ t xs, H t = some (.tup xs) → H' t = some (.tup xs)
theorem KT.refl (H : Hp) : KT H H := fun _ _ h => h
theorem KT.trans {H H1 H2 : Hp} (a : KT H H1) (b : KT H1 H2) : KT H H2 := fun t xs h => b t xs (a t xs h)
theorem KT.same {H H' : Hp} (s : Same H H') : KT H H' := fun t xs h => s _ _ h
theorem KT.new {H : Hp} {p : Addr} {o : HO} (h : H p = none) : KT H (upd H p o) := KT.same (sNew h)
theorem KT.lst {H : Hp} {p : Addr} {o : HO} {xs : List V} (h : H p = some (.lst xs)) : KT H (upd H p o) := fun t ys e => by
  rw [upd_ne (ne_of e h (by intro q; cases q))]
  exact e
theorem KT.dK {H : Hp} {p : Addr} {o : HO} {xs : List (Key × V)} (h : H p = some (.dK xs)) : KT H (upd H p o) := fun t ys e => by
  rw [upd_ne (ne_of e h (by intro q; cases q))]
  exact e
theorem KT.dT {H : Hp} {p : Addr} {o : HO} {xs : List (List Key × V)} (h : H p = some (.dT xs)) : KT H (upd H p o) := fun t ys e => by
  rw [upd_ne (ne_of e h (by intro q; cases q))]
  exact e
/-- a list of tuples of ints -/
abbrev TL (H : Hp) (xs : List V) (ds : List (List Int)) : Prop := Paired (fun (x : V) (d : List Int) => ∃ t, x = .ref t ∧ H t = some (.tup (d.map V.int))) xs ds
theorem TL.keep {H H' : Hp} (k : KT H H') {xs : List V} {ds : List (List Int)} (h : TL H xs ds) : TL H' xs ds :=
  Paired.mapP h fun _ _ ⟨t, e, z⟩ => ⟨t, e, k _ _ z⟩
theorem TL.nil {H : Hp} : TL H [] [] := Paired.nil
theorem TL.length {H : Hp} {xs : List V} {ds : List (List Int)} (h : TL H xs ds) : xs.length = ds.length := Paired.length h
theorem TL.append {H : Hp} {xs ys : List V} {ds es : List (List Int)} (h : TL H xs ds) (h' : TL H ys es) : TL H (xs ++ ys) (ds ++ es) := by
  induction h with
  | nil => exact h'
  | cons r _ ih => exact Paired.cons r ih
theorem TL.snoc {H : Hp} {xs : List V} {ds : List (List Int)} {t : Addr} {d : List Int} (h : TL H xs ds) (e : H t = some (.tup (d.map V.int))) : TL H (xs ++ [.ref t]) (ds ++ [d]) :=
  h.append (Paired.cons ⟨t, rfl, e⟩ Paired.nil)
theorem TL.get {H : Hp} : ∀ {xs : List V} {ds : List (List Int)} {i : Nat} {d : List Int}, TL H xs ds → ds[i]? = some d → ∃ t, xs[i]? = some (.ref t) ∧ H t = some (.tup (d.map V.int))
  | _, _, i, d, Paired.nil, e => by simp at e
  | _, _, 0, d, Paired.cons ⟨t, h1, h2⟩ _, e => by
    obtain rfl := Option.some.inj e
    exact ⟨t, by rw [h1]; rfl, h2⟩
  | _, _, i + 1, d, Paired.cons _ r, e => by
    obtain ⟨t, h1, h2⟩ := TL.get (i := i) r (by simpa using e)
    exact ⟨t, by simpa using h1, h2⟩
/-- a bite's place -/
def pr (p : Nat × Nat) : List Int := [(p.1 : Int), (p.2 : Int)]
theorem small {n : Nat} (h : n ≤ 100000) : n ≤ sizeLine := Nat.le_trans h (by rw [sizeLine_eq]; decide)
theorem small' {n : Nat} (h : n ≤ 100000) : n < sizeLine := Nat.lt_of_le_of_lt h (by rw [sizeLine_eq]; decide)
theorem map_get {ns : List Int} {i : Nat} {y : V} (h : (ns.map V.int)[i]? = some y) : ∃ z, ns[i]? = some z ∧ y = V.int z := by
  rw [List.getElem?_map] at h
  cases e : ns[i]? with
  | none => rw [e] at h; cases h
  | some z => rw [e] at h; exact ⟨z, rfl, (Option.some.inj h).symm⟩
theorem get_map {ns : List Int} {i : Nat} {z : Int} (h : ns[i]? = some z) : (ns.map V.int)[i]? = some (V.int z) := by
  rw [List.getElem?_map, h]; rfl
theorem at_map {ns : List Int} {i : Nat} {z : Int} (h : ns[i]? = some z) : atI (ns.map V.int) (i : Int) = some (V.int z) := atI_nat (get_map h)
theorem in62 {n : Nat} (h : n ≤ 100000) : -(2 ^ 62) ≤ (n : Int) ∧ (n : Int) < 2 ^ 62 := by
  constructor <;> omega
/-! ### calls -/
structure Cal (P : Program) (w : World) (K : PySem.W.Frag) (mg : Str → Option Value) (base : Heap) (CX : CXT) (k : Nat) (x : Str) (ps : List Str) (sp : Sp) : Prop where
  ex : ∃ (f : Addr) (fd : FuncData), FnOk P w K mg base CX k f fd ps sp ∧ mg x = some (.ref f) ∧ PySem.W.keepIn K (.ref f) = true ∧ Binds K fd ps []
theorem pe_c {X : Cx} {CX : CXT} {k j : Nat} {x : Str} {ps : List Str} {sp : Sp} {E : XK} {e : Expr} {es : List Expr} {t : TA} {p pos : Pos} (C : Cal X.prog X.w X.K X.mg X.base CX k x ps sp) (hr : Room j X.A) (hj : k ≤ j) (hx : Passes CX X E) (ha : PA X (e :: es) t)
    (hg : Gl X x := by rfl) (hdb : (x == ("__debug__" : Str)) = false := by decide) (he : starEach (e :: es) X.env = (false, eval e X.env) :: starEach es X.env := by rfl) (hpl : (backTo pos (starEach es X.env)).any (·.1) = false := by rfl) :
    PE X (.Call (.Name x p) (e :: es) [] pos) (tCall sp [] E t) := by
  obtain ⟨f, fd, F, gm, kp, bd⟩ := C.ex
  exact pe_call F (hr.mono hj) hg gm kp bd .nil hx ha hdb he hpl
/-- a comprehension without a test -/
theorem yesT {σ : L2.St} {H : Hp} {A B : Hp → Prop} (h : A H) : tYes σ H (fun b H' => if b = true then A H' else B H') := by
  show if true = true then A H else B H
  rw [if_pos rfl]
  exact h
/-! ### tests whose answer is known -/
theorem dT_ {p : Prop} [Decidable p] {A B : Prop} (h : p) (x : A) : if decide p = true then A else B := by
  rw [if_pos (decide_eq_true h)]
  exact x
theorem dF_ {p : Prop} [Decidable p] {A B : Prop} (h : ¬ p) (x : B) : if decide p = true then A else B := by
  rw [if_neg (by rw [decide_eq_false h]; exact Bool.false_ne_true)]
  exact x
theorem nT_ {p : Prop} [Decidable p] {A B : Prop} (h : ¬ p) (x : A) : if (!decide p) = true then A else B := by
  rw [if_pos (by rw [decide_eq_false h]; rfl)]
  exact x
theorem nF_ {p : Prop} [Decidable p] {A B : Prop} (h : p) (x : B) : if (!decide p) = true then A else B := by
  rw [if_neg (by rw [decide_eq_true h]; exact Bool.false_ne_true)]
  exact x
/-- ways by a test -/
theorem d2_ {p : Prop} [Decidable p] {A B : Prop} (x : p → A) (y : ¬ p → B) : if decide p = true then A else B := by
  by_cases h : p
  · exact dT_ h (x h)
  · exact dF_ h (y h)
theorem n2_ {p : Prop} [Decidable p] {A B : Prop} (x : ¬ p → A) (y : p → B) : if (!decide p) = true then A else B := by
  by_cases h : p
  · exact nF_ h (y h)
  · exact nT_ h (x h)
theorem int_eq {i j : Int} (h : V.int i = V.int j) : i = j := V.int.inj h
/-! ### data: lists and tuples of ints, lists of these -/
abbrev dI (ns : List Int) : List PyData := ns.map PyData.int
abbrev dT (ds : List (List Int)) : List PyData := ds.map fun d => PyData.tuple (dI d)
abbrev dL (ds : List (List Int)) : List PyData := ds.map fun d => PyData.list (dI d)
theorem dp_ints {K : PySem.W.Frag} {H : Hp} : ∀ ns : List Int, DpAll K H (ns.map V.int) (dI ns)
  | [] => .nil
  | x :: xs => .cons (.int x) (dp_ints xs)
theorem dp_tups {K : PySem.W.Frag} {H : Hp} : ∀ {xs : List V} {ds : List (List Int)}, TL H xs ds → DpAll K H xs (dT ds)
  | _, _, Paired.nil => .nil
  | _, _, Paired.cons ⟨t, e, h⟩ r => by
    subst e
    exact .cons (.tup (SqT.of h) (dp_ints _)) (dp_tups r)
theorem lay_ints : ∀ ns : List Int, PyData.canLayAll0 (dI ns) = true ∧ PyData.depthAll (dI ns) = 0
  | [] => ⟨by simp [PyData.canLayAll0], by simp [PyData.depthAll]⟩
  | x :: xs => by
    obtain ⟨h1, h2⟩ := lay_ints xs
    refine ⟨?_, ?_⟩
    · rw [dI, List.map_cons, PyData.canLayAll0, h1, PyData.canLay0]; rfl
    · rw [dI, List.map_cons, PyData.depthAll, h2, PyData.depth]; rfl
theorem shaped_list (ns : List Int) : SeqAt.shaped (.list (dI ns)) = true := by
  obtain ⟨h1, h2⟩ := lay_ints ns
  unfold SeqAt.shaped
  rw [PyData.canLay0, h1, PyData.depth, h2]
  rfl
theorem shaped_tup (ns : List Int) : SeqAt.shaped (.tuple (dI ns)) = true := by
  obtain ⟨h1, h2⟩ := lay_ints ns
  unfold SeqAt.shaped
  rw [PyData.canLay0, h1, PyData.depth, h2]
  rfl
theorem lay_tups : ∀ ds : List (List Int), PyData.canLayAll0 (dT ds) = true ∧ PyData.depthAll (dT ds) ≤ 1
  | [] => ⟨by simp [PyData.canLayAll0], by simp [PyData.depthAll]⟩
  | x :: xs => by
    obtain ⟨h1, h2⟩ := lay_tups xs
    obtain ⟨h3, h4⟩ := lay_ints x
    refine ⟨?_, ?_⟩
    · rw [dT, List.map_cons, PyData.canLayAll0, h1, PyData.canLay0, h3]; rfl
    · rw [dT, List.map_cons, PyData.depthAll, PyData.depth, h4]
      exact Nat.max_le.mpr ⟨Nat.le_refl _, h2⟩
theorem lay_lsts : ∀ ds : List (List Int), PyData.canLayAll0 (dL ds) = true ∧ PyData.depthAll (dL ds) ≤ 1
  | [] => ⟨by simp [PyData.canLayAll0], by simp [PyData.depthAll]⟩
  | x :: xs => by
    obtain ⟨h1, h2⟩ := lay_lsts xs
    obtain ⟨h3, h4⟩ := lay_ints x
    refine ⟨?_, ?_⟩
    · rw [dL, List.map_cons, PyData.canLayAll0, h1, PyData.canLay0, h3]; rfl
    · rw [dL, List.map_cons, PyData.depthAll, PyData.depth, h4]
      exact Nat.max_le.mpr ⟨Nat.le_refl _, h2⟩
theorem shaped_tups (ds : List (List Int)) : SeqAt.shaped (.list (dT ds)) = true := by
  obtain ⟨h1, h2⟩ := lay_tups ds
  unfold SeqAt.shaped
  rw [PyData.canLay0, h1, PyData.depth, Bool.true_and]
  exact decide_eq_true (by omega)
theorem shaped_lsts (ds : List (List Int)) : SeqAt.shaped (.list (dL ds)) = true := by
  obtain ⟨h1, h2⟩ := lay_lsts ds
  unfold SeqAt.shaped
  rw [PyData.canLay0, h1, PyData.depth, Bool.true_and]
  exact decide_eq_true (by omega)
theorem eqv_ints : ∀ ns ms : List Int, PyData.eqvAll (dI ns) (dI ms) = decide (ns = ms)
  | [], [] => by simp [dI, PyData.eqvAll]
  | [], _ :: _ => by simp [dI, PyData.eqvAll]
  | _ :: _, [] => by simp [dI, PyData.eqvAll]
  | x :: xs, y :: ys => by
    show PyData.eqvAll (PyData.int x :: dI xs) (PyData.int y :: dI ys) = _
    rw [PyData.eqvAll, eqv_ints xs ys, PyData.eqv, Bool.beq_eq_decide_eq]
    by_cases e : x = y
    · subst e; by_cases e2 : xs = ys <;> simp [e2]
    · simp [e]
theorem eqv_list (ns ms : List Int) : PyData.eqv (.list (dI ns)) (.list (dI ms)) = decide (ns = ms) := by rw [PyData.eqv, eqv_ints]
theorem eqv_tup (ns ms : List Int) : PyData.eqv (.tuple (dI ns)) (.tuple (dI ms)) = decide (ns = ms) := by rw [PyData.eqv, eqv_ints]
theorem eqv_lists : ∀ ns ms : List (List Int), PyData.eqvAll (dL ns) (dL ms) = decide (ns = ms)
  | [], [] => by simp [dL, PyData.eqvAll]
  | [], _ :: _ => by simp [dL, PyData.eqvAll]
  | _ :: _, [] => by simp [dL, PyData.eqvAll]
  | x :: xs, y :: ys => by
    show PyData.eqvAll (PyData.list (dI x) :: dL xs) (PyData.list (dI y) :: dL ys) = _
    rw [PyData.eqvAll, eqv_lists xs ys, eqv_list]
    by_cases e : x = y
    · subst e; by_cases e2 : xs = ys <;> simp [e2]
    · simp [e]
theorem dp_list {K : PySem.W.Frag} {H : Hp} {a : Addr} {ns : List Int} (h : SqL K H a (ns.map V.int)) : Dp K H (.ref a) (.list (dI ns)) := .lst h (dp_ints ns)
theorem dp_tup {K : PySem.W.Frag} {H : Hp} {a : Addr} {ns : List Int} (h : H a = some (.tup (ns.map V.int))) : Dp K H (.ref a) (.tuple (dI ns)) := .tup (SqT.of h) (dp_ints ns)
theorem dp_tl {K : PySem.W.Frag} {H : Hp} {a : Addr} {xs : List V} {ds : List (List Int)} (h : SqL K H a xs) (t : TL H xs ds) : Dp K H (.ref a) (.list (dT ds)) := .lst h (dp_tups t)
/-! ### the rules that speak of the written part, with its name -/
section
variable {X : Cx} {K : PySem.W.Frag}
theorem lenK (hK : X.K = K := by rfl) : CallR X (.builtin "len") (fun xs H Q => ∃ p ys, xs = [.ref p] ∧ (SqL K H p ys ∨ SqT K H p ys) ∧ Q (.int ys.length) H) := by subst hK; exact call_len_seq
theorem ixK (hK : X.K = K := by rfl) : IxR X (rIxL K) := by subst hK; exact ix_list
theorem ixTK (hK : X.K = K := by rfl) : IxR X (rIxT K) := by subst hK; exact ix_tup
theorem slK (hK : X.K = K := by rfl) : SlR X (rSlL K) := by subst hK; exact sl_list
theorem isiK (hK : X.K = K := by rfl) : CallR X (.builtin "isinstance") (rIsi K) := by subst hK; exact call_isi
theorem eqDK (hu : X.A.units + 64 < cLine) (hK : X.K = K := by rfl) : OpR X (compareOp .Eq) (rEqD K) := by subst hK; exact op_eqD hu
theorem neDK (hu : X.A.units + 64 < cLine) (hK : X.K = K := by rfl) : OpR X (compareOp .NotEq) (rNeD K) := by subst hK; exact op_neD hu
theorem inDK (hu : X.A.units + 65 < cLine) (hK : X.K = K := by rfl) : OpR X (compareOp .In) (rInD K) := by subst hK; exact op_inD hu
theorem notInDK (hu : X.A.units + 65 < cLine) (hK : X.K = K := by rfl) : OpR X (compareOp .NotIn) (rNotInD K) := by subst hK; exact op_notInD hu
theorem inSK (hK : X.K = K := by rfl) : OpR X (compareOp .In) (rIn K false) := by subst hK; exact op_in_seq
theorem notInSK (hK : X.K = K := by rfl) : OpR X (compareOp .NotIn) (rIn K true) := by subst hK; exact op_notIn_seq
theorem listK (hK : X.K = K := by rfl) : CallR X (.type "list") (fun xs H Q => ∃ p ys, xs = [.ref p] ∧ (SqL K H p ys ∨ SqT K H p ys) ∧ ∀ l, H l = none → Q (.ref l) (upd H l (.lst ys))) := by subst hK; exact call_list_of
theorem tupleK (hK : X.K = K := by rfl) : CallR X (.type "tuple") (fun xs H Q => ∃ p ys, xs = [.ref p] ∧ ((SqL K H p ys ∧ ∀ l, H l = none → Q (.ref l) (upd H l (.tup ys))) ∨ (SqT K H p ys ∧ Q (.ref p) H))) := by subst hK; exact call_tuple_of
theorem maxK (hc : X.calm = true) (hK : X.K = K := by rfl) : CallR X (.builtin "max") (rMax K) := by subst hK; exact cr_max hc
theorem indexK (hK : X.K = K := by rfl) : MtR X "list.index" (rIndex K) := by subst hK; exact mt_index
theorem sortedRevK (hK : X.K = K := by rfl) : CallRK X (.builtin "sorted") [Str.ofString "reverse"] (rSortedKw K true [.bl true]) := by subst hK; exact cr_sortedRev (b := true)
theorem pi_listK {tg l : Expr} {tl : TE} (hl : PE X l tl) (hK : X.K = K := by rfl) : PI X tg l (iList K tl) := by subst hK; exact pi_list hl
theorem pi_tupK {tg l : Expr} {tl : TE} (hl : PE X l tl) (hK : X.K = K := by rfl) : PI X tg l (iTup K tl) := by subst hK; exact pi_tup hl
theorem pi_enumK {e : Expr} {ta : TA} {p pos tpos : Pos} {elts : List Expr} {kk : Nat} (hg : Gl X "enumerate") (hm : X.mg "enumerate" = none) (ha : PA X [e] ta) (hs : starEach [e] X.env = [(false, eval e X.env)] := by rfl) (hK : X.K = K := by rfl) :
    PI X (.Tuple elts kk tpos) (.Call (.Name "enumerate" p) [e] [] pos) (iEnum K ta) := by subst hK; exact pi_enum hg hm ha hs
theorem pg_tupK {es : List Expr} {k : Nat} {t : TGs} {n : Nat} {pos : Pos} (hc : X.calm = true) (h : PGs X es t) (hn : (assignEach es X.env).length = n := by rfl) (hst : (assignEach es X.env).findIdx? (·.1) = none := by rfl) (hK : X.K = K := by rfl) :
    PG X (.Tuple es k pos) (gTup K n t) := by subst hK; exact pg_tup hc h hn hst
theorem pe_bmK {o e : Expr} {es : List Expr} {to : TE} {t : TA} {name : Str} {apos cpos : Pos} {T id : String} {r : V → List V → Hp → VK → Prop} (pa : PlainAttrs T) (slot : Slot T name id) (hty : typeOf (.builtin id) = pure (.type "method_descriptor")) (hm : MtR X id r) (ho : PE X o to) (ha : PA X (e :: es) t)
    (hbase : attributeBase o name X.env (eval o X.env) = eval o X.env := by rfl)
    (hfew : ((backTo cpos (starEach (e :: es) X.env)).all (fun x => !x.1) && (backToKw cpos (keywordEach [] X.env)).all (fun x => x.1.isSome)
      && decide ((e :: es).length + ([] : List Keyword).length + (if ([] : List Keyword).isEmpty then 0 else 1) < 30)) = true := by rfl)
    (hline : (apos.endLine == cpos.line) = true := by rfl) (hs : starEach (e :: es) X.env = (false, eval e X.env) :: starEach es X.env := by rfl) (hplain : (backTo cpos (starEach es X.env)).any (·.1) = false := by rfl) (hK : X.K = K := by rfl) : PE X (.Call (.Attribute o name apos) (e :: es) [] cpos) (tBM K T r to t) := by subst hK; exact pe_bm pa slot hty hm ho ha hbase hfew hline hs hplain
end
theorem hu65 {k : Nat} {A : Around} (hr : Room k A) : A.units + 65 < cLine := by
  have := hr.un
  omega
/-- the law's promise -/
def sp_law (K : PySem.W.Frag) : Sp := fun vs H Q _ => ∃ (a : Addr) (ns : List Int), vs = [.ref a] ∧ SqL K H a (ns.map V.int) ∧ ns.length ≤ 63 ∧ ∀ H', Q (.bl true) H'
/-! ### all bars -/
def allFrom : Nat → Nat → List (List Int)
  | 0, _ => [[]]
  | n + 1, m => [] :: (List.range m).flatMap fun i => (allFrom n (i + 1)).map fun t => ((i + 1 : Nat) : Int) :: t
theorem mem_allFrom : ∀ (n : Nat) (m : Nat) (b : List Int), falls (m : Int) b = true → b.length ≤ n → b ∈ allFrom n m
  | 0, m, b, _, h => by
    have : b = [] := List.length_eq_zero_iff.mp (by omega)
    subst this
    simp [allFrom]
  | n + 1, m, [], _, _ => by simp [allFrom]
  | n + 1, m, x :: xs, hf, hl => by
    rw [falls, Bool.and_eq_true, decide_eq_true_eq] at hf
    obtain ⟨⟨h1, h2⟩, h3⟩ := hf
    have e : x = (((x - 1).toNat + 1 : Nat) : Int) := by omega
    rw [allFrom]
    refine List.mem_cons_of_mem _ (List.mem_flatMap.mpr ⟨(x - 1).toNat, List.mem_range.mpr (by omega), List.mem_map.mpr ⟨xs, ?_, by rw [← e]⟩⟩)
    refine mem_allFrom n _ xs (by rw [← e]; exact h3) ?_
    rw [List.length_cons] at hl
    omega
/-- what a table of all bars shows -/
theorem all_bars {P : List Int → Bool} (h : (allFrom 5 5).all (fun b => b.isEmpty || P b) = true) {b : List Int} (hb : IsBar 5 b) : P b = true := by
  have h1 := isBarB_iff.mpr hb
  unfold isBarB at h1
  rw [Bool.and_eq_true, decide_eq_true_eq] at h1
  have h2 := List.all_eq_true.mp h b (mem_allFrom 5 5 b h1.2 h1.1.2)
  have h3 : b.isEmpty = false := by
    cases b with
    | nil => exact absurd h1.1.1 (by decide)
    | cons x xs => rfl
  rw [h3, Bool.false_or] at h2
  exact h2
/-! ### worths -/
def mexFrom (l : List Nat) : Nat → Nat → Nat
  | 0, m => m
  | k + 1, m => if m ∈ l then mexFrom l k (m + 1) else m
/-- the least number that is not in l -/
def mex (l : List Nat) : Nat := mexFrom l (l.sum + 1) 0
theorem le_sum_of_mem : ∀ {l : List Nat} {x : Nat}, x ∈ l → x ≤ l.sum
  | [], x, h => nomatch h
  | a :: l, x, h => by
    rw [List.sum_cons]
    rcases List.mem_cons.mp h with rfl | h
    · omega
    · have := le_sum_of_mem h
      omega
theorem mexFrom_spec (l : List Nat) : ∀ (k m : Nat), l.sum < m + k → (∀ j, j < m → j ∈ l) → mexFrom l k m ∉ l ∧ ∀ j, j < mexFrom l k m → j ∈ l
  | 0, m, h, hb => ⟨fun hm => by have := le_sum_of_mem (show m ∈ l from hm); omega, hb⟩
  | k + 1, m, h, hb => by
    rw [mexFrom]
    by_cases e : m ∈ l
    · rw [if_pos e]
      refine mexFrom_spec l k (m + 1) (by omega) fun j hj => ?_
      rcases Nat.lt_succ_iff_lt_or_eq.mp hj with hj | rfl
      · exact hb j hj
      · exact e
    · rw [if_neg e]
      exact ⟨e, hb⟩
theorem mex_spec (l : List Nat) : mex l ∉ l ∧ ∀ j, j < mex l → j ∈ l := mexFrom_spec l _ 0 (by omega) fun j hj => absurd hj (Nat.not_lt_zero j)
theorem mex_is {l : List Nat} {m : Nat} (h1 : m ∉ l) (h2 : ∀ j, j < m → j ∈ l) : mex l = m := by
  obtain ⟨k1, k2⟩ := mex_spec l
  rcases Nat.lt_trichotomy (mex l) m with h | h | h
  · exact absurd (h2 _ h) k1
  · exact h
  · exact absurd (k2 _ h) h1
theorem mex_congr {l l' : List Nat} (h : ∀ x, x ∈ l ↔ x ∈ l') : mex l = mex l' := mex_is (fun q => (mex_spec l').1 ((h _).mp q)) fun j hj => (h j).mpr ((mex_spec l').2 j hj)
/-- how many pieces a bar has -/
def pieces (b : List Int) : Nat := (b.map Int.toNat).sum
theorem pieces_append (a b : List Int) : pieces (a ++ b) = pieces a + pieces b := by
  unfold pieces
  rw [List.map_append, List.sum_append]
theorem pieces_cut (c : Nat) : ∀ b : List Int, pieces (b.map fun x => min x (c : Int)) ≤ pieces b
  | [] => Nat.le_refl _
  | x :: xs => by
    have := pieces_cut c xs
    unfold pieces at *
    rw [List.map_cons, List.map_cons, List.sum_cons, List.map_cons, List.sum_cons]
    omega
theorem pieces_less {b : List Int} {p : Nat × Nat} (h : p ∈ bitesL b) : pieces (behindL b p.1 p.2) < pieces b := by
  obtain ⟨x, hx, hc, _⟩ := mem_bitesL.mp h
  obtain ⟨hi, e⟩ := List.getElem?_eq_some_iff.mp hx
  have hd : b.drop p.1 = x :: b.drop (p.1 + 1) := by rw [List.drop_eq_getElem_cons hi, e]
  have hb : pieces b = pieces (b.take p.1) + pieces (b.drop p.1) := by rw [← pieces_append, List.take_append_drop]
  unfold behindL
  rw [pieces_append, hb]
  have hcut := pieces_cut p.2 (b.drop (p.1 + 1))
  have hl : pieces (if 0 < p.2 then (b.drop p.1).map fun x => min x (p.2 : Int) else []) < pieces (b.drop p.1) := by
    rw [hd]
    by_cases z : 0 < p.2
    · rw [if_pos z]
      unfold pieces at *
      rw [List.map_cons, List.map_cons, List.sum_cons, List.map_cons, List.sum_cons]
      omega
    · rw [if_neg z]
      unfold pieces
      rw [List.map_cons, List.sum_cons, List.map_nil, List.sum_nil]
      omega
  omega
theorem isBar_behind {m : Int} {b : List Int} (hb : IsBar m b) {p : Nat × Nat} (h : p ∈ bitesL b) : IsBar m (behindL b p.1 p.2) := by
  obtain ⟨x, hx, hc, hp⟩ := mem_bitesL.mp h
  obtain ⟨hi, e⟩ := List.getElem?_eq_some_iff.mp hx
  have hsub : ∀ y ∈ b.drop p.1, y ∈ b := fun y hy => List.mem_of_mem_drop hy
  have pw := hb.pw
  have ln : (behindL b p.1 p.2).length ≤ b.length ∧ 1 ≤ (behindL b p.1 p.2).length := by
    unfold behindL
    rw [List.length_append, List.length_take]
    by_cases z : 0 < p.2
    · rw [if_pos z, List.length_map, List.length_drop]
      omega
    · rw [if_neg z, List.length_nil]
      omega
  refine ⟨ln.2, Int.le_trans (Int.ofNat_le.mpr ln.1) hb.le, ?_, fun y hy => ?_⟩
  · unfold behindL
    refine List.pairwise_append.mpr ⟨pw.sublist (List.take_sublist _ _), ?_, ?_⟩
    · by_cases z : 0 < p.2
      · rw [if_pos z]
        refine List.pairwise_map.mpr ((pw.sublist (List.drop_sublist _ _)).imp fun {a c} h => ?_)
        show min a (p.2 : Int) ≥ min c (p.2 : Int)
        have h : a ≥ c := h
        omega
      · rw [if_neg z]
        exact List.Pairwise.nil
    · intro a ha c hc'
      by_cases z : 0 < p.2
      · rw [if_pos z] at hc'
        obtain ⟨y, hy, rfl⟩ := List.mem_map.mp hc'
        have := List.pairwise_append.mp (show (b.take p.1 ++ b.drop p.1).Pairwise (· ≥ ·) by rw [List.take_append_drop]; exact pw)
        have := this.2.2 a ha y hy
        show a ≥ min y (p.2 : Int)
        omega
      · rw [if_neg z] at hc'
        cases hc'
  · unfold behindL at hy
    rcases List.mem_append.mp hy with hy | hy
    · exact hb.rg y (List.mem_of_mem_take hy)
    · by_cases z : 0 < p.2
      · rw [if_pos z] at hy
        obtain ⟨u, hu, rfl⟩ := List.mem_map.mp hy
        have := hb.rg u (hsub u hu)
        omega
      · rw [if_neg z] at hy
        cases hy
theorem pieces_pos {m : Int} {b : List Int} (hb : IsBar m b) : 1 ≤ pieces b := by
  cases b with
  | nil => exact absurd hb.ne (by decide)
  | cons x xs =>
    have := hb.rg x List.mem_cons_self
    unfold pieces
    rw [List.map_cons, List.sum_cons]
    omega
theorem pieces_le : ∀ {b : List Int}, (∀ x ∈ b, x ≤ 5) → pieces b ≤ 5 * b.length
  | [], _ => Nat.zero_le _
  | x :: xs, h => by
    have h1 := pieces_le (b := xs) fun y hy => h y (List.mem_cons_of_mem _ hy)
    have h2 := h x List.mem_cons_self
    unfold pieces at *
    rw [List.map_cons, List.sum_cons, List.length_cons]
    omega
theorem pieces_25 {b : List Int} (hb : IsBar 5 b) : pieces b ≤ 25 := by
  have := pieces_le fun x hx => (hb.rg x hx).2
  have := hb.le
  omega
/-- a bar's worth, n turns deep -/
def wF : Nat → List Int → Nat
  | 0, _ => 0
  | n + 1, b => mex ((bitesL b).map fun p => wF n (behindL b p.1 p.2))
def worthL (b : List Int) : Nat := wF (pieces b) b
theorem bitesFrom_nil (r : Nat) : ∀ {b : List Int}, pieces b = 0 → bitesFrom r b = []
  | [], _ => rfl
  | x :: xs, h => by
    unfold pieces at h
    rw [List.map_cons, List.sum_cons] at h
    have h0 : x.toNat = 0 := by omega
    rw [bitesFrom, h0, rowL, List.nil_append]
    refine bitesFrom_nil (r + 1) ?_
    unfold pieces
    omega
theorem bitesL_nil {b : List Int} (h : pieces b = 0) : bitesL b = [] := bitesFrom_nil 0 h
theorem wF_any : ∀ (n : Nat) (b : List Int), pieces b ≤ n → wF n b = worthL b
  | 0, b, h => by
    have e : pieces b = 0 := by omega
    unfold worthL
    rw [e]
  | n + 1, b, h => by
    by_cases e : pieces b = 0
    · have h0 : worthL b = 0 := by
        unfold worthL
        rw [e]
        rfl
      rw [h0, wF, bitesL_nil e]
      rfl
    · obtain ⟨k, hk⟩ : ∃ k, pieces b = k + 1 := ⟨pieces b - 1, by omega⟩
      unfold worthL
      rw [hk, wF, wF]
      refine congrArg mex (List.map_congr_left fun p hp => ?_)
      have := pieces_less hp
      rw [wF_any n _ (by omega)]
      exact (wF_any k _ (by omega)).symm
  termination_by n => n
/-- POINT 6 -/
theorem worthL_eq (b : List Int) : worthL b = mex ((bitesL b).map fun p => worthL (behindL b p.1 p.2)) := by
  have h := wF_any (pieces b + 1) b (by omega)
  rw [← h, wF]
  refine congrArg mex (List.map_congr_left fun p hp => ?_)
  have := pieces_less hp
  exact wF_any _ _ (by omega)
theorem behindL_snoc (l : List Int) (x : Int) (r c : Nat) : behindL (l ++ [x]) r c = behindL l r c ++ if l.length < r then [x] else if 0 < c then [min x (c : Int)] else [] := by
  unfold behindL
  by_cases h : l.length < r
  · rw [if_pos h, List.take_of_length_le (by rw [List.length_append]; exact h), List.drop_eq_nil_of_le (by rw [List.length_append]; exact h), List.take_of_length_le (Nat.le_of_lt h), List.drop_eq_nil_of_le (Nat.le_of_lt h)]
    split <;> simp
  · have h' : r ≤ l.length := by omega
    rw [if_neg h, List.take_append_of_le_length h', List.drop_append_of_le_length h']
    split <;> simp
/-! ### lists without doubles -/
theorem length_le_of_sub {α : Type} [DecidableEq α] : ∀ {l m : List α}, l.Nodup → (∀ x ∈ l, x ∈ m) → l.length ≤ m.length
  | [], _, _, _ => Nat.zero_le _
  | x :: l, m, hn, hs => by
    obtain ⟨h1, h2⟩ := List.nodup_cons.mp hn
    have hx := hs x List.mem_cons_self
    have := length_le_of_sub (l := l) (m := m.erase x) h2 fun y hy => (List.mem_erase_of_ne (fun e => h1 (by rw [← e]; exact hy))).mpr (hs y (List.mem_cons_of_mem _ hy))
    have e := List.length_erase_of_mem hx
    have : 1 ≤ m.length := by
      cases m with
      | nil => cases hx
      | cons _ _ => simp
    rw [List.length_cons]
    omega
/-! ### a place among the bites -/
theorem any_tup (e : List Int) : ∀ ds : List (List Int), ((dT ds).any fun z => PyData.eqv z (.tuple (dI e))) = decide (e ∈ ds)
  | [] => rfl
  | d :: ds => by
    rw [dT, List.map_cons, List.any_cons, any_tup e ds, eqv_tup]
    by_cases h : e = d
    · subst h
      simp
    · have h' : ¬ d = e := fun z => h z.symm
      simp [h, h']
theorem pr_mem {ps : List (Nat × Nat)} {r c : Nat} : pr (r, c) ∈ ps.map pr ↔ (r, c) ∈ ps := by
  constructor
  · intro h
    obtain ⟨p, hp, e⟩ := List.mem_map.mp h
    have e : [(p.1 : Int), (p.2 : Int)] = [(r : Int), (c : Int)] := e
    injection e with e1 e2
    injection e2 with e2 _
    have : p = (r, c) := Prod.ext (by show p.1 = r; omega) (by show p.2 = c; omega)
    rw [← this]
    exact hp
  · exact fun h => List.mem_map_of_mem h
/-! ### errors of own classes -/
/-- nothing is let out around a body -/
theorem nobodyN {X : Cx} : L2N.Takes X (fun _ _ _ _ => False) := fun u s' x => by
  obtain ⟨_, _, _, _, _, _, _, _, _, _, _, _, _, _, _, _, no⟩ := x
  exact False.elim no
section
variable {P : Program} {w : World} {K : PySem.W.Frag} {mg : Str → Option Value} {base : Heap}
/-- a def that lets errors (with no context) out -/
theorem okN {x qual : Str} {st : Stmt} {f : Addr} {fd : FuncData} {N ps : List Str} {k : Nat} {sp : Sp} (F : Fun K x qual st f fd) (S : FnScope N ps (defScope st)) (len : ∀ vs H Q E, sp vs H Q E → vs.length = ps.length)
    (body : ∀ (cdv : Value) (A : Around) (outer : List Env) (s : Shared) (H : Hp) (vs : List V) (Q : VK) (E : XK), Room k (A.deeper (envOfC qual (defScope st) s.heap.objs.size f cdv)) → sp vs H Q E →
      ∃ t, PSs (cxOf (L2N.CX P w) P w K mg base N qual (defScope st) f cdv A outer s H E) (defBody st) t ∧ t { nx := fun _ H2 => Q .non H2, rt := Q } (start N vs) H) : FnOk P w K mg base (L2N.CX P w) (k + 1) f fd ps sp := by
  obtain ⟨_, _, _, _, _, _, cdv, _, _, rfl, lk, cd⟩ := F.ex
  exact fn_of lk cd S len fun A outer s H vs Q E r h => body cdv A outer s H vs Q E r h
end
/-- a call of a def that may let an error out, its slots known -/
theorem pe_cS {X : Cx} {W : WX} {k j : Nat} {x : Str} {ps : List Str} {sp : Sp} {e : Expr} {es : List Expr} {t : TA} {p pos : Pos} (C : Cal X.prog X.w X.K X.mg X.base (L2N.CX X.prog X.w) k x ps sp) (hr : Room j X.A) (hj : k ≤ j) (tk : L2N.Takes X W) (ha : PA X (e :: es) t)
    (hg : Gl X x := by rfl) (hdb : (x == ("__debug__" : Str)) = false := by decide) (he : starEach (e :: es) X.env = (false, eval e X.env) :: starEach es X.env := by rfl) (hpl : (backTo pos (starEach es X.env)).any (·.1) = false := by rfl) :
    PE X (.Call (.Name x p) (e :: es) [] pos) (tCallS sp (WE W) t) := by
  obtain ⟨f, fd, F, gm, kp, bd⟩ := C.ex
  exact pe_callS F (hr.mono hj) hg gm kp bd (fun σ => L2N.passAt tk σ) ha hdb he hpl
/-- what the written part says of an error class D below cB -/
structure Own (K : PySem.W.Frag) (mg : Str → Option Value) (x : Str) (cB D : Addr) : Prop where
  g : mg x = some (.ref D)
  x : PySem.W.excIn K D [.type "ValueError", .type "Exception", .type "BaseException", .type "object"] "ValueError.__new__" = true
  kp : PySem.W.keepIn K (.ref D) = true
  b : PySem.W.subIn K (.ref D) (.type "BaseException") = some true
  ty : PySem.W.typeIn K (.ref D) = some (.type "type")
  m : PySem.W.exmOne K (.ref D) (.ref cB) = some true
/-- raise D('..') -/
theorem ps_own {X : Cx} {W : WX} {K : PySem.W.Frag} {mg : Str → Option Value} {x m : Str} {cB D : Addr} {j : Nat} {p p2 pos pos2 : Pos} (hc : X.calm = true) (T : Own K mg x cB D) (tk : L2N.Takes X W) (hK : X.K = K := by rfl) (hm : X.mg = mg := by rfl) (hg : Gl X x := by rfl)
    (hdb : (x == ("__debug__" : Str)) = false := by decide) : PS X (.Raise (some (.Call (.Name x p) [.Constant (.str m) j p2] [] pos)) none pos2) (fun _ σ H => W (.ref D) none σ H) := by
  subst hK hm
  exact L2N.ps_raise hc tk (L2N.pmk_own PySem.F.excBase_ValueError T.x T.g T.kp (raises_own T.b T.ty) hg hdb)
/-! ### isinstance of the error that an except clause holds -/
theorem call_isP {X : Cx} {K : PySem.W.Frag} {p : Addr × Obj} {D : Addr} (C : ExcC K D) (hp : p ∈ X.pn) (hc : p.2.cls = .ref D) (hd : p.2.dict = none) (hf : ∃ vs, p.2.data = .fields vs) (hK : X.K = K := by rfl) : CallR X (.builtin "isinstance") (rIsE K D p.1) := by
  subst hK
  intro pins s σ H xs us Q I r h
  obtain ⟨a, oe⟩ := p
  obtain ⟨c, cv, b, rfl, same, e, q⟩ := h
  obtain _ | ⟨rx, _ | ⟨rt, _ | _⟩⟩ := r
  cases rx
  have ec := same _ rt
  subst ec
  have at0 := (I.pin (a, oe) (List.mem_append_left _ hp)).1
  have J : PySem.W.InstAt s.heap a oe D none := by
    obtain ⟨vs, ed⟩ := hf
    obtain ⟨o1, o2, o3, o4⟩ := oe
    dsimp only at hc hd ed at0
    subst hc hd ed
    exact ⟨at0, rfl, rfl, trivial⟩
  refine PySem.W.kia_one (PySem.W.handS_kitx_exc C.hg C.hk C.hs C.hd C.ha C.hn C.ht C.hm) I.kIn J e (fun z => nomatch z) fun tk => ?_
  exact ⟨.bl b, H, I.kept (t' := tk) fun _ _ z => z, rfl, q⟩
/-! ### list.count of bools -/
theorem countB {l : List Bool} : ∀ {its : List Value}, Vals (l.map V.bl) its → its = l.map Value.bool := by
  induction l with
  | nil => intro its r; cases r; rfl
  | cons b l ih =>
    intro its r
    cases r with
    | cons rb rr =>
      cases rb
      rw [ih rr]
      rfl
theorem mt_bcount {X : Cx} {K : PySem.W.Frag} (hK : X.K = K := by rfl) : MtR X "list.count" (fun x xs H Q => ∃ (p : Addr) (bs : List Bool) (k : Bool), x = .ref p ∧ xs = [.bl k] ∧ SqL K H p (bs.map V.bl) ∧ Q (.int (bs.countP (· == k) : Nat)) H) := by
  subst hK
  intro pins s σ H x xs v us Q I rx rxs h
  obtain ⟨p, bs, k, rfl, rfl, hs, q⟩ := h
  cases rx
  obtain ⟨u, rfl, ru⟩ := rxs.one
  cases ru
  obtain ⟨its, rv, ⟨⟨c1, c2, c3, c4⟩, n, ho, hc, hdn, hd⟩, _⟩ := I.list hs
  simp only at hc hd
  subst hc hd
  have ei := countB rv
  subst ei
  refine call_meets PySem.F.slot_list_count ⟨_, ho, rfl⟩ PySem.F.entry_list_count (PySem.F.args_list_count_2 _ _)
    (SeqAt.list_countAt p (bs.map Value.bool).toArray n c2 c4 (.bool k) (fun y => match y with | .bool b => b == k | _ => false)) ⟨ho, fun y hy => ?_, ?_⟩
  · obtain ⟨b, _, rfl⟩ := List.mem_map.mp (show y ∈ bs.map Value.bool by simpa using hy)
    exact PySem.SeqAt.EqAt.bool_bool b k
  · refine ⟨.int (bs.countP (· == k) : Nat), H, I.tok _, ⟨s.toks, ?_⟩, q⟩
    show Value.int (((bs.map Value.bool).countP _ : Nat) : Int) s.toks = _
    rw [List.countP_map]
    rfl
/-! ### a def that is called with the error that an except clause holds -/
/-- its promise may speak of the error's object -/
structure FnE (P : Program) (w : World) (K : PySem.W.Frag) (mg : Str → Option Value) (base : Heap) (k : Nat) (f : Addr) (fd : FuncData) (ps : List Str) (sp : Addr × Obj → Sp) : Prop where
  size : ∀ p vs H Q E, sp p vs H Q E → vs.length = ps.length
  go : ∀ (p : Addr × Obj) (A : Around) (outer : List Env) (s : Shared) (H : Hp) (args : Args) (us : List Value) (vs : List V) (Q : VK) (E : XK), L2H.RoomH k A → L2H.Hot1 A p → L2H.PinOk outer H s p → Env0 P w K mg base A outer s H →
    BindsTo s fd args (ps.zip us) → Vals vs us → sp p vs H Q E → codeAny (model P w) A (.call (.ref f) args) (CR CX0 outer P w H s Q E) s
section
variable {P : Program} {w : World} {K : PySem.W.Frag} {mg : Str → Option Value} {base : Heap}
theorem okE {x qual : Str} {st : Stmt} {f : Addr} {fd : FuncData} {N ps : List Str} {k : Nat} {sp : Addr × Obj → Sp} (F : Fun K x qual st f fd) (S : FnScope N ps (defScope st)) (size : ∀ p vs H Q E, sp p vs H Q E → vs.length = ps.length)
    (body : ∀ (cdv : Value) (A : Around) (outer : List Env) (s : Shared) (H : Hp) (vs : List V) (Q : VK) (E : XK) (p : Addr × Obj), L2H.Hot1 A p → L2H.RoomH k (A.deeper (envOfC qual (defScope st) s.heap.objs.size f cdv)) → sp p vs H Q E →
      ∃ t, PSs (L2H.cxH CX0 P w K mg base N qual (defScope st) f cdv A outer s H E p) (defBody st) t ∧ t { nx := fun _ H2 => Q .non H2, rt := Q } (start N vs) H) : FnE P w K mg base (k + 1) f fd ps sp := by
  obtain ⟨_, _, _, _, _, _, cdv, _, _, rfl, lk, cd⟩ := F.ex
  refine ⟨size, ?_⟩
  intro p A outer s H args us vs Q E room hot pin env bt rv hsp
  have KX := env.mod.kin.keeps fun b o e => (env.bs b o e).1
  have NL := env.mod.nolimit.keeps fun b o e => (env.bs b o e).1
  refine codeAny_call_function room.depth (KX _ _ lk) rfl S.co S.gen rfl (PySem.W.codeRec_of KX cd) (bt _ _ _ _ ?_)
  refine wpAny_newFunctionEnv_cells S.kind (fun ⟨n, v⟩ hy => ?_) fun en een s1 x => ?_
  · cases S.par n (List.of_mem_zip hy).1 with
    | inl q => exact .inl q
    | inr q => exact .inr ⟨q, PySem.W.cellsFrom_some _ _ _ (.inl q)⟩
  · subst een
    refine ⟨NL.keeps x.toInCall.keep, codeAny_func ?_⟩
    obtain ⟨t, run, q0⟩ := body cdv A outer s H vs Q E p hot (room.deeper _) hsp
    have I := L2H.inv_startH (CX := CX0) (E := E) S pin env (size _ _ _ _ _ hsp) rv x
    refine wpAny_mono (run.run [] s1 (start N vs) H _ I q0) (fun fl s2 hs => ?_) fun _ _ z => z
    match fl, hs with
    | .ret _, ⟨v, _, H2, J, r, q⟩ => exact ⟨v, H2, J.os, J.bare, J.base, J.hok, r, q⟩
    | .next, ⟨_, H2, J, q⟩ => exact ⟨V.non, H2, J.os, J.bare, J.base, J.hok, rfl, q⟩
    | .brk, ⟨_, _, _, q⟩ => exact False.elim q
    | .cont, ⟨_, _, _, q⟩ => exact False.elim q
end
structure CalE (P : Program) (w : World) (K : PySem.W.Frag) (mg : Str → Option Value) (base : Heap) (k : Nat) (x : Str) (ps : List Str) (sp : Addr × Obj → Sp) : Prop where
  ex : ∃ (f : Addr) (fd : FuncData), FnE P w K mg base k f fd ps sp ∧ mg x = some (.ref f) ∧ PySem.W.keepIn K (.ref f) = true ∧ Binds K fd ps []
def tCallE (sp : Addr × Obj → Sp) (p : Addr × Obj) (t : TA) : TE := fun σ H Q => t σ H fun vs H1 => sp p vs H1 Q E0
theorem pe_cE {X : Cx} {k j : Nat} {x : Str} {ps : List Str} {sp : Addr × Obj → Sp} {q : Addr × Obj} {e : Expr} {es : List Expr} {t : TA} {p pos : Pos} (C : CalE X.prog X.w X.K X.mg X.base k x ps sp) (hr : L2H.RoomH j X.A) (hj : k ≤ j) (hot : L2H.Hot1 X.A q) (hq : q ∈ X.pn) (ha : PA X (e :: es) t)
    (hg : Gl X x := by rfl) (hdb : (x == ("__debug__" : Str)) = false := by decide) (he : starEach (e :: es) X.env = (false, eval e X.env) :: starEach es X.env := by rfl) (hpl : (backTo pos (starEach es X.env)).any (·.1) = false := by rfl) :
    PE X (.Call (.Name x p) (e :: es) [] pos) (tCallE sp q t) := by
  obtain ⟨f, fd, F, gm, kp, bd⟩ := C.ex
  constructor
  intro pins s σ H Q I h
  refine wpAny_Call_Name_kw (ld_glob I hg gm ?_ hdb)
  refine PySem.W.callWith_K (h₀ := X.base) I.ok.mod.kin kp (thn (ha.run pos pins s σ H _ I h) fun us s1 ⟨vs, H1, I1, r, z⟩ => ⟨I1.kIn, ?_⟩) he hpl
  have bl := bd s1 us I1.kIn (by rw [List.append_nil, ← r.length]; exact F.size _ _ _ _ _ z)
  rw [List.append_nil] at bl
  obtain ⟨p1, p2, p3, p4, p5⟩ := I1.pin q (List.mem_append_left _ hq)
  refine wpAny_call (codeAny_mono (F.go q X.A X.stack s1 H1 ⟨us, []⟩ us vs Q E0 (hr.mono hj) hot ⟨p1, p2, fun hm => (List.mem_cons.mp (I1.stkSub q.1 hm)).elim p3 p4, p5⟩ I1.env0 bl r z) fun res s2 hz => ?_)
  match res, hz with
  | .error _, hz => exact False.elim hz
  | .ok (.ret _), hz => exact I1.after hz
  | .ok .next, hz => exact False.elim hz
  | .ok .brk, hz => exact False.elim hz
  | .ok .cont, hz => exact False.elim hz
/-- the four error classes; D is the i-th of them -/
structure Kind (K : PySem.W.Frag) (cs : Nat → Addr) (D : Addr) (i : Nat) : Prop where
  ex : ExcC K D
  v : PySem.W.kitOne K (.ref D) (.type "ValueError") = some true
  k : ∀ j, j < 4 → PySem.W.kitOne K (.ref D) (.ref (cs j)) = some (decide (i = j))
theorem hot_of {A : Around} {a : Addr} {oe : Obj} {cls : Value} {d : Option Addr} (z : L2N.Zn cls d oe) (f : ∃ vs, oe.data = .fields vs) (h : A.handled = some (.ref a)) : L2H.Hot1 A (a, oe) := by
  obtain ⟨vs, e⟩ := f
  exact ⟨h, vs, e, z.2.2 vs e⟩
def words : List Str := ["bar", "bite", "table", "note"]
/-- the four classes, and what stands above them -/
structure Kinds (K : PySem.W.Frag) (mg : Str → Option Value) (cs : Nat → Addr) (cB : Addr) : Prop where
  gB : mg "BiteError" = some (.ref cB)
  o0 : Own K mg "NoBar" cB (cs 0)
  o1 : Own K mg "NoBite" cB (cs 1)
  o2 : Own K mg "NoTable" cB (cs 2)
  o3 : Own K mg "NoNote" cB (cs 3)
  k : ∀ i, i < 4 → Kind K cs (cs i) i
/-- the four answers of isinstance -/
def ansL (i : Nat) : List Bool := [decide (i = 0), decide (i = 1), decide (i = 2), decide (i = 3)]
/-- _law_word_of(e), e the error in hand, of the i-th class -/
def sp_law_word_of (K : PySem.W.Frag) (cs : Nat → Addr) : Addr × Obj → Sp := fun p vs H Q _ => ∃ (D : Addr) (i : Nat) (wd : Str), vs = [.ref p.1] ∧ p.2.cls = .ref D ∧ p.2.dict = none ∧ Kind K cs D i ∧ i < 4 ∧ words[i]? = some wd ∧ ∀ H', Same H H' → Q (.str wd) H'
/-- _law_word_of(e) in an except clause that holds the error at a -/
def tWord (K : PySem.W.Frag) (cs : Nat → Addr) (a : Addr) (cls : Value) (d : Option Addr) (m : Nat) : TE := fun σ H Q => ∃ (D : Addr) (i : Nat) (wd : Str), σ[m]? = some (some (.ref a)) ∧ cls = .ref D ∧ d = none ∧ Kind K cs D i ∧ i < 4 ∧ words[i]? = some wd ∧ ∀ H', Same H H' → Q (.str wd) H'
theorem pe_word {X : Cx} {cs : Nat → Addr} {a : Addr} {oe : Obj} {cls : Value} {d : Option Addr} {pn : List (Addr × Obj)} {j k : Nat} {x : Str} {ps : List Str} {e : Expr} {m : Nat} {p pos : Pos} (C : CalE X.prog X.w X.K X.mg X.base k x ps (sp_law_word_of X.K cs)) (hr : Room j X.A) (hj : k ≤ j) (hz : L2N.Zn cls d oe) (hf : ∃ vs, oe.data = .fields vs)
    (ha : PA (X.suite a ((a, oe) :: pn)) [e] (tCons (tVar m) tNil)) (hg : Gl X x := by rfl) (hdb : (x == ("__debug__" : Str)) = false := by decide) (hs : starEach (e :: []) X.env = (false, eval e X.env) :: starEach [] X.env := by rfl) (hpl : (backTo pos (starEach [] X.env)).any (·.1) = false := by rfl) :
    PE (X.suite a ((a, oe) :: pn)) (.Call (.Name x p) [e] [] pos) (tWord X.K cs a cls d m) := by
  have go := pe_cE (X := X.suite a ((a, oe) :: pn)) (q := (a, oe)) (p := p) (pos := pos) C (j := j) ⟨hr.dp, hr.un⟩ hj (hot_of hz hf rfl) (.head _) ha hg hdb hs hpl
  refine ⟨fun pins s σ H Q I h => go.run pins s σ H Q I ?_⟩
  obtain ⟨z1, z2, _⟩ := hz
  obtain ⟨D, i, wd, es, ec, ed, kd, i4, hw, q⟩ := h
  exact ⟨_, es, D, i, wd, rfl, z1.trans ec, z2.trans ed, kd, i4, hw, q⟩
/-! ### the text -/
def topS (i : Nat) : Stmt := PySem.Challenge.pw_bitebar_k02_bitten.main.body.getD i (.Pass ⟨0, 0, 0, 0⟩)
abbrev s_is_bar : Stmt := topS 9
abbrev N_is_bar : List Str := ["bar", "before", "pieces"]
theorem sc_is_bar : FnScope N_is_bar ["bar"] (defScope s_is_bar) := ⟨rfl, rfl, rfl, by decide +kernel, rfl, by decide +kernel, by decide +kernel⟩
section
variable {P : Program} {w : World} {K : PySem.W.Frag} {mg : Str → Option Value} {base : Heap}
/-- is_bar(bar) -/
def sp_is_bar (K : PySem.W.Frag) : Sp := fun vs H Q _ => ∃ (a : Addr) (ns : List Int), vs = [.ref a] ∧ SqL K H a (ns.map V.int) ∧ Q (.bl (isBarB ns)) H
theorem ok_is_bar {f : Addr} {fd : FuncData} (F : Fun K "is_bar" "is_bar" s_is_bar f fd) (m_len : mg "len" = none) {t1 t2 : Tok} (g_MOST_ROWS : mg "MOST_ROWS" = some (.int 5 t1)) (g_MOST_PIECES : mg "MOST_PIECES" = some (.int 5 t2)) :
    FnOk P w K mg base CX0 1 f fd ["bar"] (sp_is_bar K) := by
  refine F.ok sc_is_bar (fun vs H Q E h => ?_) (fun cdv A outer s H vs Q E hr h => ?_)
  · obtain ⟨a, ns, rfl, _⟩ := h
    rfl
  · obtain ⟨a, ns, rfl, hS, q⟩ := h
    have hl : (ns.map V.int).length = ns.length := List.length_map _
    refine ⟨_, (pss_cons (ps_if (PW.pt (pw_or (pt_cmpR op_lt (pe_callB (lenK (K := K)) (by rfl) m_len PySem.boot_len (pa_cons (pv 0) pa_nil)) pe_int (nomark _)) (pw_or1 (pt_cmpR op_gt (pe_callB (lenK (K := K)) (by rfl) m_len PySem.boot_len (pa_cons (pv 0) pa_nil)) (pe_glob (v := .int 5) (by rfl) g_MOST_ROWS ⟨_, rfl⟩) (nomark _)))))
        (pss_one (ps_ret pe_bl))
        pss_nil)
      (pss_cons (ps_set (i := 1) sc_is_bar.nd rfl (.inl rfl) (pe_glob (v := .int 5) (by rfl) g_MOST_PIECES ⟨_, rfl⟩))
      (pss_cons (ps_for PassesOwn.never rfl (pi_listK (K := K) (pv 0)) (pg_name (i := 2) sc_is_bar.nd rfl (.inl rfl))
        (pss_cons (ps_if (PW.pt (pw_or (pt_cmpR op_lt (pv 2) pe_int (nomark _)) (pw_or1 (pt_cmpR op_gt (pv 2) (pv 1) (nomark _)))))
          (pss_one (ps_ret pe_bl))
          pss_nil)
        (pss_one (ps_set (i := 1) sc_is_bar.nd rfl (.inl rfl) (pv 2)))))
      (pss_one (ps_ret pe_bl))))), ?_⟩
    refine ⟨_, rfl, a, _, rfl, .inl hS, _, _, rfl, rfl, _, rfl, ite2 (fun c => iteT ?_) (fun c => ?_)⟩
    · have c' := of_decide_eq_true c
      rw [hl] at c'
      have e : isBarB ns = false := by
        unfold isBarB
        rw [decide_eq_false (by omega), Bool.false_and]
      rw [e] at q
      exact q
    · refine ⟨_, rfl, a, _, rfl, .inl hS, _, _, rfl, rfl, _, rfl, ite2 (fun c2 => ?_) (fun c2 => ?_)⟩
      · have c' := of_decide_eq_true c2
        rw [hl] at c'
        have e : isBarB ns = false := by
          unfold isBarB
          rw [decide_eq_false (by omega), Bool.false_and]
        rw [e] at q
        exact q
      · have c1 := of_decide_eq_false (Bool.eq_false_iff.mpr c)
        have c2 := of_decide_eq_false (Bool.eq_false_iff.mpr c2)
        rw [hl] at c1 c2
        have e : isBarB ns = falls 5 ns := by
          unfold isBarB
          rw [decide_eq_true (by omega), Bool.true_and]
        rw [e] at q
        refine ⟨_, rfl, a, rfl, ⟨_, hS⟩, for_list (K := K) (a := a) (xs := ns.map V.int) (fun i σ H' => ∃ (m : Int) (v : Option V), σ = [some (.ref a), some (.int m), v] ∧ H' = H ∧ falls 5 ns = falls m (ns.drop i))
          ⟨5, none, rfl, rfl, rfl⟩ (fun i σ H' _ ⟨_, _, _, e, _⟩ => e ▸ hS) ?_ ?_⟩
        · rintro i y σ H' hi ⟨m, v, rfl, rfl, ef⟩
          obtain ⟨z, hz, rfl⟩ := map_get hi
          have hd : ns.drop i = z :: ns.drop (i + 1) := by
            obtain ⟨hi', e⟩ := List.getElem?_eq_some_iff.mp hz
            rw [List.drop_eq_getElem_cons hi', e]
          rw [hd, falls] at ef
          refine ⟨_, rfl, _, _, rfl, rfl, _, rfl, ite2 (fun c => iteT ?_) (fun c => ?_)⟩
          · have c' := of_decide_eq_true c
            rw [decide_eq_false (by omega), Bool.false_and] at ef
            rw [ef] at q
            exact q
          · refine ⟨_, rfl, _, rfl, _, _, rfl, rfl, _, rfl, ite2 (fun c2 => ?_) (fun c2 => ?_)⟩
            · have c' := of_decide_eq_true c2
              rw [decide_eq_false (by omega), Bool.false_and] at ef
              rw [ef] at q
              exact q
            · have c3 := of_decide_eq_false (Bool.eq_false_iff.mpr c)
              have c4 := of_decide_eq_false (Bool.eq_false_iff.mpr c2)
              rw [decide_eq_true (by omega), Bool.true_and] at ef
              exact ⟨_, rfl, z, some (.int z), rfl, rfl, ef⟩
        · rintro σ H' ⟨m, v, rfl, rfl, ef⟩
          rw [hl, List.drop_length, falls] at ef
          rw [ef] at q
          exact q
end
abbrev s_asked_bar : Stmt := topS 10
abbrev N_asked_bar : List Str := ["bar"]
theorem sc_asked_bar : FnScope N_asked_bar ["bar"] (defScope s_asked_bar) := ⟨rfl, rfl, rfl, by decide +kernel, rfl, by decide +kernel, by decide +kernel⟩
section
variable {P : Program} {w : World} {K : PySem.W.Frag} {mg : Str → Option Value} {base : Heap}
/-- asked_bar(bar), good bars -/
def sp_asked_bar (K : PySem.W.Frag) : Sp := fun vs H Q _ => ∃ (a : Addr) (ns : List Int), vs = [.ref a] ∧ SqL K H a (ns.map V.int) ∧ isBarB ns = true ∧ Q .non H
theorem ok_asked_bar {f : Addr} {fd : FuncData} (F : Fun K "asked_bar" "asked_bar" s_asked_bar f fd) (C_is_bar : Cal P w K mg base CX0 1 "is_bar" ["bar"] (sp_is_bar K)) :
    FnOk P w K mg base CX0 2 f fd ["bar"] (sp_asked_bar K) := by
  refine F.ok sc_asked_bar (fun vs H Q E h => ?_) (fun cdv A outer s H vs Q E hr h => ?_)
  · obtain ⟨a, ns, rfl, _⟩ := h
    rfl
  · obtain ⟨a, ns, rfl, hS, hb, q⟩ := h
    refine ⟨_, (pss_one (ps_if (pt_not (pt_val (pe_c C_is_bar hr (by decide) pass0 (pa_cons (pv 0) pa_nil))))
        (pss_one ps_never)
        pss_nil)), ?_⟩
    refine ⟨_, rfl, a, ns, rfl, hS, _, rfl, ?_⟩
    rw [hb]
    exact iteF q
end
abbrev s_bites_of : Stmt := topS 11
abbrev N_bites_of : List Str := ["bar", "found", "row", "column"]
theorem sc_bites_of : FnScope N_bites_of ["bar"] (defScope s_bites_of) := ⟨rfl, rfl, rfl, by decide +kernel, rfl, by decide +kernel, by decide +kernel⟩
section
variable {P : Program} {w : World} {K : PySem.W.Frag} {mg : Str → Option Value} {base : Heap}
/-- bites_of(bar): a new list of new tuples -/
def sp_bites_of (K : PySem.W.Frag) : Sp := fun vs H Q _ => ∃ (a : Addr) (ns : List Int), vs = [.ref a] ∧ SqL K H a (ns.map V.int) ∧ IsBar 5 ns ∧
  ∀ H' p xs, Same H H' → H p = none → H' p = some (.lst xs) → TL H' xs ((bitesL ns).map pr) → Q (.ref p) H'
theorem ok_bites_of {f : Addr} {fd : FuncData} (F : Fun K "bites_of" "bites_of" s_bites_of f fd) (m_len : mg "len" = none) (m_range : mg "range" = none) (m_int : mg "int" = none) :
    FnOk P w K mg base CX0 1 f fd ["bar"] (sp_bites_of K) := by
  refine F.ok sc_bites_of (fun vs H Q E h => ?_) (fun cdv A outer s H vs Q E hr h => ?_)
  · obtain ⟨a, ns, rfl, _⟩ := h
    rfl
  · obtain ⟨a, ns, rfl, hS, hb, q⟩ := h
    have hl : (ns.map V.int).length = ns.length := List.length_map _
    have hl5 : ns.length ≤ 5 := by have := hb.le; omega
    refine ⟨_, (pss_cons (ps_set (i := 1) sc_bites_of.nd rfl (.inl rfl) (pe_lst pa_nil))
      (pss_cons (ps_for PassesOwn.never rfl (pi_range1 (by rfl) m_range (pa_cons (pe_callB (lenK (K := K)) (by rfl) m_len PySem.boot_len (pa_cons (pv 0) pa_nil)) pa_nil)) (pg_name (i := 2) sc_bites_of.nd rfl (.inr rfl))
        (pss_one (ps_expr (pe_bmK (K := K) PySem.F.plainAttrs_list PySem.F.slot_list_extend PySem.F.type_list_extend mt_extend (pv 1) (pa_cons (pe_lc (own := [("column", 3)]) (g := gName 3) (tt := tYes) rfl sc_bites_of.nd (pi_range2 (by rfl) m_range (pa_cons (pe_callTy call_int1 (by rfl) m_int (by decide +kernel) (pa_cons (pe_cmpR op_eq (pv 2) pe_int (nomark _)) pa_nil)) (pa_cons (pe_ix (ixK (K := K)) (pv 0) (pv 2) (fun _ _ => rfl)) pa_nil))) (blkOk_by (N := N_bites_of) (sc := defScope s_bites_of) (by decide +kernel)) (fun _ _ _ _ _ => (pg_name (i := 3) sc_bites_of.nd rfl (.inl rfl))) (fun _ _ _ _ _ => pts_nil) (fun _ _ _ _ _ => (pe_tup (pa_cons (pv 2) (pa_cons (pv 3) pa_nil))))) pa_nil)))))
      (pss_one (ps_ret (pv 1))))), ?_⟩
    refine ⟨Nat.zero_le _, fun o no => ?_⟩
    have s1 : Same H (upd H o (.lst [])) := sNew no
    refine ⟨_, rfl, a, _, rfl, .inl (s1.seq hS), _, rfl, by rw [hl]; omega, by rw [hl]; omega,
      for_range (lo := 0) (fun i σ H' => ∃ (y2 : Option V) (xs : List V), σ = [some (.ref a), some (.ref o), y2, none] ∧ Same H H' ∧ H' o = some (.lst xs) ∧ TL H' xs ((bitesL (ns.take i)).map pr))
      ⟨none, [], rfl, s1, upd_same, TL.nil⟩ ?_ ?_⟩
    · rintro i σ H1 hi ⟨y2, xs, rfl, sm, ho, ht⟩
      rw [hl, Int.toNat_natCast] at hi
      have hz := List.getElem?_eq_getElem hi
      have hx := hb.rg ns[i] (List.getElem_mem hi)
      have hA : SqL K H1 a (ns.map V.int) := sm.seq hS
      rw [Int.zero_add]
      refine ⟨_, rfl, .inl ⟨rfl, _, SqL.of ho⟩, ?_⟩
      obtain ⟨L, eL, L1, rL, pL⟩ : ∃ L : Nat, (if decide (V.int (i : Int) = V.int 0) = true then (1 : Int) else 0) = (L : Int) ∧ L ≤ 1 ∧ rowL i L = [] ∧ 0 < i + L := by
        by_cases e : i = 0
        · subst e
          exact ⟨1, rfl, Nat.le_refl _, rfl, by omega⟩
        · refine ⟨0, if_neg ?_, Nat.zero_le _, rfl, by omega⟩
          intro z
          have := V.int.inj (of_decide_eq_true z)
          omega
      refine ⟨_, rfl, rfl, .inr ⟨_, rfl, ?_⟩⟩
      rw [eL]
      refine ⟨_, rfl, _, rfl, a, _, _, _, rfl, rfl, hA, at_map hz, _, _, rfl, ⟨by omega, by omega, by omega, by omega⟩, fun D nD => ?_⟩
      have oD : o ≠ D := ne_of_none ho nD
      refine lc_range (lo := (L : Int)) (n := (ns[i] - (L : Int)).toNat) (fun j H' => ∃ ys : List V, Same H1 H' ∧ H' D = some (.lst ys) ∧ TL H' ys ((rowL i (L + j)).map pr))
        ⟨[], sNew nD, upd_same, by rw [Nat.add_zero, rL]; exact TL.nil⟩ ?_ ?_
      · rintro j H2 hj ⟨ys, sm2, hD, ht2⟩
        refine ⟨rfl, yesT ?_⟩
        refine ⟨_, rfl, _, rfl, by show 2 ≤ sizeLine; decide, fun t nt => ?_⟩
        have Dt : D ≠ t := ne_of_none hD nt
        have k2 : KT H2 (upd H2 t (.tup [.int (i : Int), .int ((L : Int) + (j : Int))])) := KT.new nt
        have hD2 : upd H2 t (.tup [.int (i : Int), .int ((L : Int) + (j : Int))]) D = some (.lst ys) := by rw [upd_ne Dt]; exact hD
        have hlen : ys.length = (rowL i (L + j)).length := by rw [ht2.length, List.length_map]
        have hlen2 := rowL_len i (L + j)
        refine ⟨ys, hD2, small' (by omega), _, sPut (sThen sm2 nt) nD, upd_same, ?_⟩
        rw [← Nat.add_assoc, rowL, if_pos (by omega), List.map_append]
        refine TL.keep (KT.lst hD2) ((ht2.keep k2).snoc ?_)
        rw [upd_same]
        all_goals rfl
      · rintro H2 ⟨ys, sm2, hD, ht2⟩
        have eN : L + (ns[i] - (L : Int)).toNat = ns[i].toNat := by omega
        rw [eN] at ht2
        have ho2 := sm2 _ _ ho
        have hx1 : xs.length ≤ 25 := by
          rw [ht.length, List.length_map]
          exact bitesL_take_len hb i
        have hy1 : ys.length ≤ 5 := by
          have := rowL_len i ns[i].toNat
          rw [ht2.length, List.length_map]
          omega
        refine ⟨o, D, xs, ys, rfl, rfl, ho2, hD, small (by omega), ?_⟩
        refine ⟨some (.int (i : Int)), xs ++ ys, rfl, sPut (sm.trans sm2) no, upd_same, ?_⟩
        rw [bitesL_more hz, List.map_append]
        exact TL.keep (KT.lst ho2) ((ht.keep (KT.same sm2)).append ht2)
    · rintro σ H1 ⟨y2, xs, rfl, sm, ho, ht⟩
      rw [hl, Int.toNat_natCast, List.take_length] at ht
      exact ⟨_, rfl, q H1 o xs sm no ho ht⟩
end
abbrev s_behind : Stmt := topS 12
abbrev N_behind : List Str := ["bar", "row", "column", "found", "pieces"]
theorem sc_behind : FnScope N_behind ["bar", "row", "column"] (defScope s_behind) := ⟨rfl, rfl, rfl, by decide +kernel, rfl, by decide +kernel, by decide +kernel⟩
section
variable {P : Program} {w : World} {K : PySem.W.Frag} {mg : Str → Option Value} {base : Heap}
/-- behind(bar, row, column): a new list -/
def sp_behind (K : PySem.W.Frag) : Sp := fun vs H Q _ => ∃ (a : Addr) (ns : List Int) (r c : Nat), vs = [.ref a, .int (r : Nat), .int (c : Nat)] ∧ SqL K H a (ns.map V.int) ∧ IsBar 5 ns ∧ (r, c) ∈ bitesL ns ∧
  ∀ H' p, Same H H' → H p = none → H' p = some (.lst ((behindL ns r c).map V.int)) → Q (.ref p) H'
theorem cut_take (xs : List V) (r : Nat) : cutV xs none (some (r : Int)) = xs.take r := by
  unfold cutV
  rw [HT.sIx_none, HT.sIx_nat, List.drop_zero, Nat.sub_zero]
  by_cases h : r ≤ xs.length
  · rw [Nat.min_eq_left h]
  · rw [Nat.min_eq_right (by omega), List.take_length, List.take_of_length_le (by omega)]
theorem cut_drop (xs : List V) (r : Nat) : cutV xs (some (r : Int)) none = xs.drop r := by
  unfold cutV
  rw [HT.sIx_none, HT.sIx_nat]
  by_cases h : r ≤ xs.length
  · rw [Nat.min_eq_left h, List.take_of_length_le (by rw [List.length_drop]; omega)]
  · rw [Nat.min_eq_right (by omega), List.drop_eq_nil_of_le (Nat.le_refl _), List.drop_eq_nil_of_le (by omega), List.take_nil]
theorem ok_behind {f : Addr} {fd : FuncData} (F : Fun K "behind" "behind" s_behind f fd) (m_list : mg "list" = none) (m_min : mg "min" = none) :
    FnOk P w K mg base CX0 1 f fd ["bar", "row", "column"] (sp_behind K) := by
  refine F.ok sc_behind (fun vs H Q E h => ?_) (fun cdv A outer s H vs Q E hr h => ?_)
  · obtain ⟨a, ns, r, c, rfl, _⟩ := h
    rfl
  · obtain ⟨a, ns, r, c, rfl, hS, ib, hm, q⟩ := h
    have hl5 : ns.length ≤ 5 := by have := ib.le; omega
    refine ⟨_, (pss_cons (ps_set (i := 3) sc_behind.nd rfl (.inl rfl) (pe_callTy (listK (K := K)) (by rfl) m_list (by decide +kernel) (pa_cons (pe_slice (slK (K := K)) (pv 0) po_none (po_some (pv 1))) pa_nil)))
      (pss_cons (ps_if (pt_cmpR op_gt (pv 2) pe_int (nomark _))
        (pss_one (ps_expr (pe_bmK (K := K) PySem.F.plainAttrs_list PySem.F.slot_list_extend PySem.F.type_list_extend mt_extend (pv 3) (pa_cons (pe_lc (own := [("pieces", 4)]) (g := gName 4) (tt := tYes) rfl sc_behind.nd (pi_listK (K := K) (pe_slice (slK (K := K)) (pv 0) (po_some (pv 1)) po_none)) (blkOk_by (N := N_behind) (sc := defScope s_behind) (by decide +kernel)) (fun _ _ _ _ _ => (pg_name (i := 4) sc_behind.nd rfl (.inl rfl))) (fun _ _ _ _ _ => pts_nil) (fun _ _ _ _ _ => (pe_callB (call_min2 rfl) (by rfl) m_min (by decide +kernel) (pa_cons (pv 4) (pa_cons (pv 2) pa_nil))))) pa_nil))))
        pss_nil)
      (pss_one (ps_ret (pv 3))))), ?_⟩
    refine ⟨_, rfl, _, rfl, (r : Int), rfl, a, _, rfl, hS, fun p1 n1 => ?_⟩
    rw [cut_take, ← List.map_take]
    refine ⟨p1, _, rfl, .inl (SqL.of upd_same), fun o no => ?_⟩
    have s1 : Same H (upd (upd H p1 (.lst ((ns.take r).map V.int))) o (.lst ((ns.take r).map V.int))) := sThen (sNew n1) no
    have ho : upd (upd H p1 (.lst ((ns.take r).map V.int))) o (.lst ((ns.take r).map V.int)) o = some (.lst ((ns.take r).map V.int)) := upd_same
    have no0 : H o = none := by
      cases e : H o with
      | none => rfl
      | some u =>
        have := sNew (o := .lst ((ns.take r).map V.int)) n1 o u e
        rw [no] at this
        cases this
    generalize upd (upd H p1 (.lst ((ns.take r).map V.int))) o (.lst ((ns.take r).map V.int)) = H1 at s1 ho ⊢
    refine ⟨_, rfl, _, _, rfl, rfl, _, rfl, ite2 (fun z => ?_) (fun z => ?_)⟩
    · have z' := of_decide_eq_true z
      refine ⟨_, rfl, .inl ⟨rfl, _, SqL.of ho⟩, ?_⟩
      refine ⟨_, rfl, _, rfl, (r : Int), rfl, a, _, rfl, s1.seq hS, fun p2 n2 => ?_⟩
      rw [cut_drop, ← List.map_drop]
      have s2 : Same H1 (upd H1 p2 (.lst ((ns.drop r).map V.int))) := sNew n2
      have h2 : upd H1 p2 (.lst ((ns.drop r).map V.int)) p2 = some (.lst ((ns.drop r).map V.int)) := upd_same
      generalize upd H1 p2 (.lst ((ns.drop r).map V.int)) = H2 at s2 h2 ⊢
      have ho2 := s2 _ _ ho
      refine ⟨p2, rfl, ⟨_, SqL.of h2⟩, fun D nD => ?_⟩
      refine lc_list (K := K) (a := p2) (xs := (ns.drop r).map V.int) (fun j H' => Same H2 H' ∧ H' D = some (.lst ((((ns.drop r).take j).map fun x => min x (c : Int)).map V.int))) ⟨sNew nD, upd_same⟩ (fun _ _ _ h => SqL.of (h.1 _ _ h2)) ?_ ?_
      · rintro j y H3 hj ⟨s3, hD⟩
        obtain ⟨u, hu, rfl⟩ := map_get hj
        refine ⟨rfl, yesT ?_⟩
        refine ⟨_, rfl, _, rfl, _, _, rfl, _, hD, ?_, sPut s3 nD, ?_⟩
        · rw [List.length_map, List.length_map, List.length_take, List.length_drop]
          exact small' (by omega)
        · rw [upd_same, take_more hu, List.map_append, List.map_append]
          have e : (if (c : Int) < u then (c : Int) else u) = min u (c : Int) := by
            by_cases z : (c : Int) < u
            · rw [if_pos z]; omega
            · rw [if_neg z]; omega
          show some (HO.lst (_ ++ [V.int (if (c : Int) < u then (c : Int) else u)])) = _
          rw [e]
          all_goals rfl
      · rintro H3 ⟨s3, hD⟩
        rw [List.length_map, List.take_length] at hD
        have ho3 := s3 _ _ ho2
        refine ⟨o, D, _, _, rfl, rfl, ho3, hD, ?_, ?_⟩
        · rw [List.length_map, List.length_map, List.length_map, List.length_take, List.length_drop]
          exact small (by omega)
        · refine ⟨_, rfl, q _ o (sPut ((s1.trans s2).trans s3) no0) no0 ?_⟩
          rw [upd_same]
          unfold behindL
          rw [if_pos (by omega), List.map_append]
    · have z' := of_decide_eq_false (Bool.eq_false_iff.mpr z)
      refine ⟨_, rfl, q H1 o s1 no0 ?_⟩
      unfold behindL
      rw [if_neg (by omega), List.append_nil]
      exact ho
end
abbrev s_bitten : Stmt := topS 13
abbrev N_bitten : List Str := ["bar", "row", "column"]
theorem sc_bitten : FnScope N_bitten ["bar", "row", "column"] (defScope s_bitten) := ⟨rfl, rfl, rfl, by decide +kernel, rfl, by decide +kernel, by decide +kernel⟩
section
variable {P : Program} {w : World} {K : PySem.W.Frag} {mg : Str → Option Value} {base : Heap}
/-- bitten(bar, row, column), the bar good: a new list, or an error -/
def sp_bitten (K : PySem.W.Frag) (cs : Nat → Addr) : Sp := fun vs H Q E => ∃ (a : Addr) (ns : List Int) (r c : Int), vs = [.ref a, .int r, .int c] ∧ SqL K H a (ns.map V.int) ∧ IsBar 5 ns ∧
  (∀ (i j : Nat), r = i → c = j → (i, j) ∈ bitesL ns → ∀ H' p, Same H H' → H p = none → H' p = some (.lst ((behindL ns i j).map V.int)) → Q (.ref p) H') ∧
  ([r, c] ∉ (bitesL ns).map pr → ∀ H', Same H H' → E (.ref (cs 1)) none H')
theorem ok_bitten {f : Addr} {fd : FuncData} (F : Fun K "bitten" "bitten" s_bitten f fd) (C_asked_bar : Cal P w K mg base CX0 2 "asked_bar" ["bar"] (sp_asked_bar K)) (C_bites_of : Cal P w K mg base CX0 1 "bites_of" ["bar"] (sp_bites_of K))
    (C_behind : Cal P w K mg base CX0 1 "behind" ["bar", "row", "column"] (sp_behind K)) {cs : Nat → Addr} {cB : Addr} (T_kinds : Kinds K mg cs cB) : FnOk P w K mg base (L2N.CX P w) 3 f fd ["bar", "row", "column"] (sp_bitten K cs) := by
  refine okN F sc_bitten (fun vs H Q E h => ?_) (fun cdv A outer s H vs Q E hr h => ?_)
  · obtain ⟨a, ns, r, c, rfl, _⟩ := h
    rfl
  · obtain ⟨a, ns, r, c, rfl, hS, ib, q, qe⟩ := h
    refine ⟨_, (pss_cons (ps_expr (pe_c C_asked_bar hr (by decide) pass0 (pa_cons (pv 0) pa_nil)))
      (pss_cons (ps_if (pt_cmpR (notInDK (K := K) (hu65 hr)) (pe_tup (pa_cons (pv 1) (pa_cons (pv 2) pa_nil))) (pe_c C_bites_of hr (by decide) pass0 (pa_cons (pv 0) pa_nil)) (by rfl))
        (pss_one (ps_own rfl T_kinds.o1 (L2N.takes_of rfl rfl rfl rfl)))
        pss_nil)
      (pss_one (ps_ret (pe_c C_behind hr (by decide) pass0 (pa_cons (pv 0) (pa_cons (pv 1) (pa_cons (pv 2) pa_nil)))))))), ?_⟩
    refine ⟨_, rfl, a, ns, rfl, hS, isBarB_iff.mpr ib, ?_⟩
    refine ⟨_, rfl, _, rfl, by show 2 ≤ sizeLine; decide, fun t nt => ?_⟩
    have s1 : Same H (upd H t (.tup [.int r, .int c])) := sNew nt
    have ht1 : upd H t (.tup [.int r, .int c]) t = some (.tup ([r, c].map V.int)) := upd_same
    generalize upd H t (.tup [.int r, .int c]) = H1 at s1 ht1 ⊢
    refine ⟨_, rfl, a, ns, rfl, s1.seq hS, ib, fun H2 p xs s2 np hp tp => ?_⟩
    have ht2 := s2 _ _ ht1
    have s12 := s1.trans s2
    refine ⟨_, _, dp_tup ht2, dp_tl (SqL.of hp) tp, shaped_tup _, shaped_tups _, _, rfl, ?_⟩
    rw [any_tup]
    refine n2_ (fun hm => ?_) (fun hm => ?_)
    · exact qe hm H2 s12
    · obtain ⟨⟨i, j⟩, hb, e⟩ := List.mem_map.mp hm
      have e : [(i : Int), (j : Int)] = [r, c] := e
      injection e with e1 e2
      injection e2 with e2 _
      subst e1 e2
      refine ⟨_, rfl, _, rfl, _, rfl, a, ns, i, j, rfl, s12.seq hS, ib, hb, fun H3 g s3 ng hg => ?_⟩
      exact q i j rfl rfl hb H3 g (s12.trans s3) (s12.free ng) hg
end
abbrev s_law_cell_at : Stmt := topS 15
abbrev N_law_cell_at : List Str := ["script", "k"]
theorem sc_law_cell_at : FnScope N_law_cell_at ["script", "k"] (defScope s_law_cell_at) := ⟨rfl, rfl, rfl, by decide +kernel, rfl, by decide +kernel, by decide +kernel⟩
section
variable {P : Program} {w : World} {K : PySem.W.Frag} {mg : Str → Option Value} {base : Heap}
/-- _law_cell_at(script, k) -/
def cellAt (ns : List Int) (k : Nat) : Int := ns.getD k 0
def sp_law_cell_at (K : PySem.W.Frag) : Sp := fun vs H Q _ => ∃ (a : Addr) (ns : List Int) (k : Nat), vs = [.ref a, .int k] ∧ SqL K H a (ns.map V.int) ∧ Q (.int (cellAt ns k)) H
theorem ok_law_cell_at {f : Addr} {fd : FuncData} (F : Fun K "_law_cell_at" "_law_cell_at" s_law_cell_at f fd) (m_len : mg "len" = none) : FnOk P w K mg base CX0 1 f fd ["script", "k"] (sp_law_cell_at K) := by
  refine F.ok sc_law_cell_at (fun vs H Q E h => ?_) (fun cdv A outer s H vs Q E hr h => ?_)
  · obtain ⟨a, ns, k, rfl, _⟩ := h
    rfl
  · obtain ⟨a, ns, k, rfl, hS, q⟩ := h
    have hl : (ns.map V.int).length = ns.length := List.length_map _
    refine ⟨_, (pss_cons (ps_if (pt_cmpR op_lt (pv 1) (pe_callB (lenK (K := K)) (by rfl) m_len PySem.boot_len (pa_cons (pv 0) pa_nil)) (nomark _))
        (pss_one (ps_ret (pe_ix (ixK (K := K)) (pv 0) (pv 1) (fun _ _ => rfl))))
        pss_nil)
      (pss_one (ps_ret pe_int))), ?_⟩
    refine ⟨_, rfl, _, rfl, a, _, rfl, .inl hS, _, _, rfl, rfl, _, rfl, ite2 (fun c => ?_) (fun c => ?_)⟩
    · have c' := of_decide_eq_true c
      rw [hl] at c'
      have hk : k < ns.length := by omega
      have e : cellAt ns k = ns[k] := by
        unfold cellAt
        rw [List.getD_eq_getElem?_getD, List.getElem?_eq_getElem hk]; rfl
      rw [e] at q
      exact ⟨_, rfl, _, rfl, a, _, _, _, rfl, rfl, hS, at_map (List.getElem?_eq_getElem hk), q⟩
    · have c' := of_decide_eq_false (Bool.eq_false_iff.mpr c)
      rw [hl] at c'
      have e : cellAt ns k = 0 := by
        unfold cellAt
        rw [List.getD_eq_getElem?_getD, List.getElem?_eq_none (by omega)]; rfl
      rw [e] at q
      exact q
end
abbrev s_law_whole : Stmt := topS 16
abbrev N_law_whole : List Str := ["found"]
theorem sc_law_whole : FnScope N_law_whole ["found"] (defScope s_law_whole) := ⟨rfl, rfl, rfl, by decide +kernel, rfl, by decide +kernel, by decide +kernel⟩
section
variable {P : Program} {w : World} {K : PySem.W.Frag} {mg : Str → Option Value} {base : Heap}
/-- _law_whole(found), of an int -/
def sp_law_whole (K : PySem.W.Frag) : Sp := fun vs H Q _ => ∃ i : Int, vs = [.int i] ∧ Q (.bl true) H
theorem ok_law_whole {f : Addr} {fd : FuncData} (F : Fun K "_law_whole" "_law_whole" s_law_whole f fd) (m_isinstance : mg "isinstance" = none) (m_int : mg "int" = none) (m_bool : mg "bool" = none) : FnOk P w K mg base CX0 1 f fd ["found"] (sp_law_whole K) := by
  refine F.ok sc_law_whole (fun vs H Q E h => ?_) (fun cdv A outer s H vs Q E hr h => ?_)
  · obtain ⟨i, rfl, _⟩ := h
    rfl
  · obtain ⟨i, rfl, q⟩ := h
    refine ⟨_, (pss_one (ps_ret (pe_and (pe_callB (isiK (K := K)) (by rfl) m_isinstance (by decide +kernel) (pa_cons (pv 0) (pa_cons (pe_bltn (v := .ty "int") (by rfl) m_int (by decide +kernel) rfl) pa_nil))) (pe_one (pe_not (pe_callB (isiK (K := K)) (by rfl) m_isinstance (by decide +kernel) (pa_cons (pv 0) (pa_cons (pe_bltn (v := .ty "bool") (by rfl) m_bool (by decide +kernel) rfl) pa_nil)))))))), ?_⟩
    refine ⟨_, rfl, _, _, _, _, true, rfl, .ty _, .base (.int i), kit_ty (by decide +kernel), true, rfl, iteT ?_⟩
    exact ⟨_, rfl, _, _, _, _, false, rfl, .ty _, .base (.int i), kit_ty (by decide +kernel), false, rfl, q⟩
end
abbrev s_law_is_list : Stmt := topS 17
abbrev N_law_is_list : List Str := ["found", "due", "k"]
theorem sc_law_is_list : FnScope N_law_is_list ["found", "due"] (defScope s_law_is_list) := ⟨rfl, rfl, rfl, by decide +kernel, rfl, by decide +kernel, by decide +kernel⟩
section
variable {P : Program} {w : World} {K : PySem.W.Frag} {mg : Str → Option Value} {base : Heap}
/-- _law_is_list(found, due), of two lists of the same ints -/
def sp_law_is_list (K : PySem.W.Frag) : Sp := fun vs H Q _ => ∃ (p d : Addr) (ns : List Int), vs = [.ref p, .ref d] ∧ H p = some (.lst (ns.map V.int)) ∧ H d = some (.lst (ns.map V.int)) ∧ ns.length ≤ 1000 ∧ Q (.bl true) H
theorem ok_law_is_list {f : Addr} {fd : FuncData} (F : Fun K "_law_is_list" "_law_is_list" s_law_is_list f fd) (m_len : mg "len" = none) (m_range : mg "range" = none) (m_isinstance : mg "isinstance" = none) (m_list : mg "list" = none)
    (C_law_whole : Cal P w K mg base CX0 1 "_law_whole" ["found"] (sp_law_whole K)) : FnOk P w K mg base CX0 2 f fd ["found", "due"] (sp_law_is_list K) := by
  refine F.ok sc_law_is_list (fun vs H Q E h => ?_) (fun cdv A outer s H vs Q E hr h => ?_)
  · obtain ⟨p, d, ns, rfl, _⟩ := h
    rfl
  · obtain ⟨p, d, ns, rfl, hp, hd, hl, q⟩ := h
    have el : (ns.map V.int).length = ns.length := List.length_map _
    refine ⟨_, (pss_cons (ps_if (PW.pt (pw_or (pt_not (pt_val (pe_callB (isiK (K := K)) (by rfl) m_isinstance (by decide +kernel) (pa_cons (pv 0) (pa_cons (pe_bltn (v := .ty "list") (by rfl) m_list (by decide +kernel) rfl) pa_nil))))) (pw_or1 (pt_cmpR op_ne (pe_callB (lenK (K := K)) (by rfl) m_len PySem.boot_len (pa_cons (pv 0) pa_nil)) (pe_callB (lenK (K := K)) (by rfl) m_len PySem.boot_len (pa_cons (pv 1) pa_nil)) (nomark _)))))
        (pss_one (ps_ret pe_bl))
        pss_nil)
      (pss_cons (ps_for PassesOwn.never rfl (pi_range1 (by rfl) m_range (pa_cons (pe_callB (lenK (K := K)) (by rfl) m_len PySem.boot_len (pa_cons (pv 1) pa_nil)) pa_nil)) (pg_name (i := 2) sc_law_is_list.nd rfl (.inl rfl))
        (pss_one (ps_if (PW.pt (pw_or (pt_not (pt_val (pe_c C_law_whole hr (by decide) pass0 (pa_cons (pe_ix (ixK (K := K)) (pv 0) (pv 2) (fun _ _ => rfl)) pa_nil)))) (pw_or1 (pt_cmpR op_ne (pe_ix (ixK (K := K)) (pv 0) (pv 2) (fun _ _ => rfl)) (pe_ix (ixK (K := K)) (pv 1) (pv 2) (fun _ _ => rfl)) (nomark _)))))
          (pss_one (ps_ret pe_bl))
          pss_nil)))
      (pss_one (ps_ret pe_bl)))), ?_⟩
    refine ⟨_, rfl, _, _, _, _, true, rfl, .ty _, .base (.lst hp), kit_ty (by decide +kernel), true, rfl, iteF ?_⟩
    refine ⟨_, rfl, p, _, rfl, .inl (SqL.of hp), _, rfl, d, _, rfl, .inl (SqL.of hd), rfl, _, rfl, ?_⟩
    rw [decide_eq_true rfl]
    refine iteF ?_
    refine ⟨_, rfl, d, _, rfl, .inl (SqL.of hd), _, rfl, by omega, by omega,
      for_range (lo := 0) (fun i σ H' => ∃ (y2 : Option V), σ = [some (.ref p), some (.ref d), y2] ∧ H' = H) ⟨none, rfl, rfl⟩ ?_ ?_⟩
    · rintro i σ H1 hi ⟨y2, rfl, rfl⟩
      rw [el, Int.toNat_natCast] at hi
      have hz := List.getElem?_eq_getElem hi
      rw [Int.zero_add]
      refine ⟨_, rfl, _, rfl, p, _, _, _, rfl, rfl, SqL.of hp, at_map hz, ns[i], rfl, true, rfl, iteF ?_⟩
      refine ⟨_, rfl, _, rfl, p, _, _, _, rfl, rfl, SqL.of hp, at_map hz, _, rfl, _, rfl, d, _, _, _, rfl, rfl, SqL.of hd, at_map hz, rfl, _, rfl, ?_⟩
      rw [decide_eq_true rfl]
      exact iteF ⟨_, rfl, rfl⟩
    · rintro σ H1 ⟨y2, rfl, rfl⟩
      exact q
end
abbrev s_law_word_of : Stmt := topS 18
abbrev N_law_word_of : List Str := ["e", "kinds"]
theorem sc_law_word_of : FnScope N_law_word_of ["e"] (defScope s_law_word_of) := ⟨rfl, rfl, rfl, by decide +kernel, rfl, by decide +kernel, by decide +kernel⟩
section
variable {P : Program} {w : World} {K : PySem.W.Frag} {mg : Str → Option Value} {base : Heap}
theorem ansL_at (i : Nat) (h : i < 4) : ((ansL i).map V.bl)[i]? = some (V.bl true) ∧ ((ansL i).map V.bl).all flatV = true ∧ ∀ (m : Nat) (z : V), m < i → ((ansL i).map V.bl)[m]? = some z → eqV z (.bl true) = false := by
  have go : ∀ b : Bool, b = false → eqV (V.bl b) (.bl true) = false := fun b e => by subst e; rfl
  refine ⟨?_, by rfl, ?_⟩
  · match i, h with
    | 0, _ => rfl
    | 1, _ => rfl
    | 2, _ => rfl
    | 3, _ => rfl
  · intro m z hm e
    match i, h, m, hm with
    | 1, _, 0, _ => cases e; rfl
    | 2, _, 0, _ => cases e; rfl
    | 2, _, 1, _ => cases e; rfl
    | 3, _, 0, _ => cases e; rfl
    | 3, _, 1, _ => cases e; rfl
    | 3, _, 2, _ => cases e; rfl
theorem ok_law_word_of {f : Addr} {fd : FuncData} (F : Fun K "_law_word_of" "_law_word_of" s_law_word_of f fd) (m_isinstance : mg "isinstance" = none) (m_ValueError : mg "ValueError" = none) {cs : Nat → Addr} {cB : Addr} (T_kinds : Kinds K mg cs cB) :
    FnE P w K mg base 1 f fd ["e"] (sp_law_word_of K cs) := by
  refine okE F sc_law_word_of (fun p vs H Q E h => ?_) (fun cdv A outer s H vs Q E p hot hr h => ?_)
  · obtain ⟨D, i, wd, rfl, _⟩ := h
    rfl
  · obtain ⟨D, i, wd, rfl, hc, hd, kd, i4, hw, q⟩ := h
    have hf : ∃ vs, p.2.data = .fields vs := by
      obtain ⟨_, v, e, _⟩ := hot
      exact ⟨v, e⟩
    refine ⟨_, (pss_cons (ps_set (i := 1) sc_law_word_of.nd rfl (.inl rfl) (pe_lst (pa_cons (pe_callB (call_isP (K := K) kd.ex (.head _) hc hd hf) (by rfl) m_isinstance (by decide +kernel) (pa_cons (pv 0) (pa_cons (pe_glob (v := .ref (cs 0)) (by rfl) T_kinds.o0.g rfl) pa_nil))) (pa_cons (pe_callB (call_isP (K := K) kd.ex (.head _) hc hd hf) (by rfl) m_isinstance (by decide +kernel) (pa_cons (pv 0) (pa_cons (pe_glob (v := .ref (cs 1)) (by rfl) T_kinds.o1.g rfl) pa_nil))) (pa_cons (pe_callB (call_isP (K := K) kd.ex (.head _) hc hd hf) (by rfl) m_isinstance (by decide +kernel) (pa_cons (pv 0) (pa_cons (pe_glob (v := .ref (cs 2)) (by rfl) T_kinds.o2.g rfl) pa_nil))) (pa_cons (pe_callB (call_isP (K := K) kd.ex (.head _) hc hd hf) (by rfl) m_isinstance (by decide +kernel) (pa_cons (pv 0) (pa_cons (pe_glob (v := .ref (cs 3)) (by rfl) T_kinds.o3.g rfl) pa_nil))) pa_nil))))))
      (pss_cons (ps_if (PW.pt (pw_or (pt_cmpR op_ne (pe_bmK (K := K) PySem.F.plainAttrs_list PySem.F.slot_list_count PySem.F.type_list_count mt_bcount (pv 1) (pa_cons pe_bl pa_nil)) pe_int (nomark _)) (pw_or1 (pt_not (pt_val (pe_callB (call_isP (K := K) kd.ex (.head _) hc hd hf) (by rfl) m_isinstance (by decide +kernel) (pa_cons (pv 0) (pa_cons (pe_bltn (v := .ty "ValueError") (by rfl) m_ValueError (by decide +kernel) rfl) pa_nil))))))))
        (pss_one (ps_ret pe_str))
        pss_nil)
      (pss_one (ps_ret (pe_ix (ixK (K := K)) (pe_lst (pa_cons pe_str (pa_cons pe_str (pa_cons pe_str (pa_cons pe_str pa_nil))))) (pe_bmK (K := K) PySem.F.plainAttrs_list PySem.F.slot_list_index PySem.F.type_list_index indexK (pv 1) (pa_cons pe_bl pa_nil)) (fun _ _ => rfl)))))), ?_⟩
    refine ⟨_, rfl, _, _, _, rfl, (fun _ r => r), kd.k 0 (by decide), ?_⟩
    refine ⟨_, rfl, _, _, _, rfl, (fun _ r => r), kd.k 1 (by decide), ?_⟩
    refine ⟨_, rfl, _, _, _, rfl, (fun _ r => r), kd.k 2 (by decide), ?_⟩
    refine ⟨_, rfl, _, _, _, rfl, (fun _ r => r), kd.k 3 (by decide), ?_⟩
    refine ⟨by show 4 ≤ sizeLine; decide, fun l nl => ?_⟩
    have s1 : Same H (upd H l (.lst [V.bl (decide (i = 0)), V.bl (decide (i = 1)), V.bl (decide (i = 2)), V.bl (decide (i = 3))])) := sNew nl
    have hl : upd H l (.lst [V.bl (decide (i = 0)), V.bl (decide (i = 1)), V.bl (decide (i = 2)), V.bl (decide (i = 3))]) l = some (.lst ((ansL i).map V.bl)) := upd_same
    refine ⟨_, rfl, ?_⟩
    generalize upd H l (.lst [V.bl (decide (i = 0)), V.bl (decide (i = 1)), V.bl (decide (i = 2)), V.bl (decide (i = 3))]) = H1 at s1 hl ⊢
    have e1 : ((ansL i).countP (· == true) : Nat) = 1 := by
      match i, i4 with
      | 0, _ => rfl
      | 1, _ => rfl
      | 2, _ => rfl
      | 3, _ => rfl
    refine ⟨.inl ⟨rfl, _, SqL.of hl⟩, l, ansL i, true, rfl, rfl, SqL.of hl, ?_⟩
    rw [e1]
    refine ⟨rfl, _, rfl, ?_⟩
    rw [show (((1 : Nat) : Int)) = 1 from rfl, decide_eq_true rfl]
    refine iteF ?_
    refine ⟨_, rfl, _, _, _, rfl, (fun _ r => r), kd.v, true, rfl, iteF ?_⟩
    refine ⟨by show 4 ≤ sizeLine; decide, fun g ng => ?_⟩
    have s2 : Same H1 (upd H1 g (.lst (words.map V.str))) := sNew ng
    have hg : upd H1 g (.lst (words.map V.str)) g = some (.lst (words.map V.str)) := upd_same
    obtain ⟨w1, w2, w3⟩ := ansL_at i i4
    refine ⟨_, rfl, .inl ⟨rfl, _, SqL.of (s2 _ _ hl)⟩, ?_⟩
    refine ⟨l, _, .bl true, i, .bl true, rfl, rfl, SqL.of (s2 _ _ hl), rfl, w2, w1, rfl, w3, ?_⟩
    refine ⟨g, _, _, _, rfl, rfl, SqL.of hg, atI_nat (by rw [List.getElem?_map, hw]; rfl), ?_⟩
    exact q _ (s1.trans s2)
end
abbrev s_law_bar_by : Stmt := topS 19
abbrev N_law_bar_by : List Str := ["cell", "most", "many", "found", "k"]
theorem sc_law_bar_by : FnScope N_law_bar_by ["cell", "most"] (defScope s_law_bar_by) := ⟨rfl, rfl, rfl, by decide +kernel, rfl, by decide +kernel, by decide +kernel⟩
section
variable {P : Program} {w : World} {K : PySem.W.Frag} {mg : Str → Option Value} {base : Heap}
/-- _law_bar_by(cell, most): a bar -/
def sp_law_bar_by (K : PySem.W.Frag) : Sp := fun vs H Q _ => ∃ (c m : Int), vs = [.int c, .int m] ∧ 1 ≤ m ∧ m ≤ 5 ∧
  ∀ H' p ns, Same H H' → H p = none → H' p = some (.lst (ns.map V.int)) → IsBar m ns → Q (.ref p) H'
theorem ok_law_bar_by {f : Addr} {fd : FuncData} (F : Fun K "_law_bar_by" "_law_bar_by" s_law_bar_by f fd) (m_range : mg "range" = none) (m_sorted : mg "sorted" = none) : FnOk P w K mg base CX0 1 f fd ["cell", "most"] (sp_law_bar_by K) := by
  refine F.ok sc_law_bar_by (fun vs H Q E h => ?_) (fun cdv A outer s H vs Q E hr h => ?_)
  · obtain ⟨c, m, rfl, _⟩ := h
    rfl
  · obtain ⟨c, m, rfl, h1, h5, q⟩ := h
    have hm0 := Int.emod_nonneg c (show m ≠ 0 by omega)
    have hm1 := Int.emod_lt_of_pos c (show 0 < m by omega)
    refine ⟨_, (pss_cons (ps_set (i := 2) sc_law_bar_by.nd rfl (.inl rfl) (pe_op op_add pe_int (pe_op op_mod (pv 0) (pv 1))))
      (pss_cons (ps_set (i := 0) sc_law_bar_by.nd rfl (.inl rfl) (pe_op op_fdiv (pv 0) (pv 1)))
      (pss_cons (ps_set (i := 3) sc_law_bar_by.nd rfl (.inl rfl) (pe_lst pa_nil))
      (pss_cons (ps_for PassesOwn.never rfl (pi_range1 (by rfl) m_range (pa_cons (pv 2) pa_nil)) (pg_name (i := 4) sc_law_bar_by.nd rfl (.inl rfl))
        (pss_cons (ps_expr (pe_bmK (K := K) PySem.F.plainAttrs_list PySem.F.slot_list_append PySem.F.type_list_append mt_append (pv 3) (pa_cons (pe_op op_add pe_int (pe_op op_mod (pv 0) (pv 1))) pa_nil)))
        (pss_one (ps_set (i := 0) sc_law_bar_by.nd rfl (.inl rfl) (pe_op op_fdiv (pv 0) (pv 1))))))
      (pss_one (ps_ret (pe_callBK (sortedRevK (K := K)) (by rfl) m_sorted (by decide +kernel) (pa_cons (pv 3) pa_nil) (pk_cons pe_bl pk_nil)))))))), ?_⟩
    refine ⟨_, rfl, _, rfl, _, _, rfl, rfl, (by show 0 < m; omega), _, _, rfl, rfl, ?_⟩
    refine ⟨_, rfl, _, rfl, _, _, rfl, rfl, ⟨by omega, by omega⟩, Nat.zero_le _, fun o no => ?_⟩
    refine ⟨_, rfl, _, rfl, by omega, by omega,
      for_range (lo := 0) (fun i σ H' => ∃ (c' : Int) (y : Option V) (ds : List Int), σ = [some (.int c'), some (.int m), some (.int (1 + c % m)), some (.ref o), y] ∧ H' = upd H o (.lst (ds.map V.int)) ∧ ds.length = i ∧ ∀ x ∈ ds, 1 ≤ x ∧ x ≤ m)
      ⟨_, none, [], rfl, rfl, rfl, fun x hx => nomatch hx⟩ ?_ ?_⟩
    · rintro i σ H1 hi ⟨c', y, ds, rfl, rfl, el, hx⟩
      have hc0 := Int.emod_nonneg c' (show m ≠ 0 by omega)
      have hc1 := Int.emod_lt_of_pos c' (show 0 < m by omega)
      refine ⟨_, rfl, .inl ⟨rfl, _, SqL.of upd_same⟩, ?_⟩
      refine ⟨_, rfl, _, rfl, _, _, rfl, rfl, (by show 0 < m; omega), _, _, rfl, rfl, o, _, _, rfl, rfl, upd_same, by rw [List.length_map]; exact small' (by omega), ?_⟩
      refine ⟨_, rfl, _, rfl, _, _, rfl, rfl, ⟨by omega, by omega⟩, ?_⟩
      refine ⟨_, _, ds ++ [1 + c' % m], rfl, ?_, by rw [List.length_append, el]; rfl, fun x h => ?_⟩
      · rw [upd_upd, List.map_append]; rfl
      · rcases List.mem_append.mp h with h | h
        · exact hx x h
        · have := List.mem_singleton.mp h
          omega
    · rintro σ H1 ⟨c', y, ds, rfl, rfl, el, hx⟩
      refine ⟨_, rfl, o, ds, rfl, rfl, SqL.of upd_same, fun ns p hp ho np => ?_⟩
      have hlen := hp.length_eq
      refine q _ p ns (sThen (sNew no) np) ?_ upd_same ⟨by omega, by omega, ho, fun x h => hx x (hp.mem_iff.mp h)⟩
      cases e : H p with
      | none => rfl
      | some u =>
        have := sNew (o := .lst (ds.map V.int)) no p u e
        rw [np] at this
        cases this
end
abbrev s_law_behind : Stmt := topS 20
abbrev N_law_behind : List Str := ["bar", "row", "column", "found", "k", "left"]
theorem sc_law_behind : FnScope N_law_behind ["bar", "row", "column"] (defScope s_law_behind) := ⟨rfl, rfl, rfl, by decide +kernel, rfl, by decide +kernel, by decide +kernel⟩
section
variable {P : Program} {w : World} {K : PySem.W.Frag} {mg : Str → Option Value} {base : Heap}
/-- _law_behind(bar, row, column): a new list -/
theorem ok_law_behind {f : Addr} {fd : FuncData} (F : Fun K "_law_behind" "_law_behind" s_law_behind f fd) (m_len : mg "len" = none) (m_range : mg "range" = none) : FnOk P w K mg base CX0 1 f fd ["bar", "row", "column"] (sp_behind K) := by
  refine F.ok sc_law_behind (fun vs H Q E h => ?_) (fun cdv A outer s H vs Q E hr h => ?_)
  · obtain ⟨a, ns, r, c, rfl, _⟩ := h
    rfl
  · obtain ⟨a, ns, r, c, rfl, hS, ib, hm, q⟩ := h
    have hl : (ns.map V.int).length = ns.length := List.length_map _
    have hl5 : ns.length ≤ 5 := by have := ib.le; omega
    obtain ⟨xr, hxr, _, hpos⟩ := mem_bitesL.mp hm
    have hrl : r < ns.length := (List.getElem?_eq_some_iff.mp hxr).1
    refine ⟨_, (pss_cons (ps_set (i := 3) sc_law_behind.nd rfl (.inl rfl) (pe_lst pa_nil))
      (pss_cons (ps_for PassesOwn.never rfl (pi_range1 (by rfl) m_range (pa_cons (pe_callB (lenK (K := K)) (by rfl) m_len PySem.boot_len (pa_cons (pv 0) pa_nil)) pa_nil)) (pg_name (i := 4) sc_law_behind.nd rfl (.inl rfl))
        (pss_cons (ps_set (i := 5) sc_law_behind.nd rfl (.inl rfl) (pe_ix (ixK (K := K)) (pv 0) (pv 4) (fun _ _ => rfl)))
        (pss_cons (ps_if (PW.pt (pw_and (pt_cmpR op_ge (pv 4) (pv 1) (nomark _)) (pw_and1 (pt_cmpR op_gt (pv 5) (pv 2) (nomark _)))))
          (pss_one (ps_set (i := 5) sc_law_behind.nd rfl (.inl rfl) (pv 2)))
          pss_nil)
        (pss_one (ps_if (pt_cmpR op_gt (pv 5) pe_int (nomark _))
          (pss_one (ps_expr (pe_bmK (K := K) PySem.F.plainAttrs_list PySem.F.slot_list_append PySem.F.type_list_append mt_append (pv 3) (pa_cons (pv 5) pa_nil))))
          pss_nil)))))
      (pss_one (ps_ret (pv 3))))), ?_⟩
    refine ⟨Nat.zero_le _, fun o no => ?_⟩
    have s1 : Same H (upd H o (.lst [])) := sNew no
    refine ⟨_, rfl, a, _, rfl, .inl (s1.seq hS), _, rfl, by rw [hl]; omega, by rw [hl]; omega,
      for_range (lo := 0) (fun i σ H' => ∃ (y4 y5 : Option V), σ = [some (.ref a), some (.int (r : Nat)), some (.int (c : Nat)), some (.ref o), y4, y5] ∧ Same H H' ∧ H' o = some (.lst ((behindL (ns.take i) r c).map V.int)))
      ⟨none, none, rfl, s1, by rw [upd_same]; unfold behindL; simp⟩ ?_ ?_⟩
    · rintro i σ H1 hi ⟨y4, y5, rfl, sm, ho⟩
      rw [hl, Int.toNat_natCast] at hi
      have hz := List.getElem?_eq_getElem hi
      have hx := ib.rg ns[i] (List.getElem_mem hi)
      have hzl : ((behindL (ns.take i) r c).map V.int).length ≤ 100 := by
        unfold behindL
        rw [List.length_map, List.length_append, List.length_take, List.length_take]
        split
        · rw [List.length_map, List.length_drop, List.length_take]; omega
        · rw [List.length_nil]; omega
      have more := behindL_snoc (ns.take i) ns[i] r c
      rw [← take_more hz, List.length_take, Nat.min_eq_left (Nat.le_of_lt hi)] at more
      have app : ∀ z : Int, behindL (ns.take (i + 1)) r c = behindL (ns.take i) r c ++ [z] → ∃ (y4 y5 : Option V), [some (V.ref a), some (.int (r : Nat)), some (.int (c : Nat)), some (.ref o), some (.int (i : Nat)), some (.int z)] = [some (.ref a), some (.int (r : Nat)), some (.int (c : Nat)), some (.ref o), y4, y5] ∧
          Same H (upd H1 o (.lst ((behindL (ns.take i) r c).map V.int ++ [.int z]))) ∧ upd H1 o (.lst ((behindL (ns.take i) r c).map V.int ++ [.int z])) o = some (.lst ((behindL (ns.take (i + 1)) r c).map V.int)) := fun z e => by
        refine ⟨_, _, rfl, sPut sm no, ?_⟩
        rw [upd_same, e, List.map_append]
        all_goals rfl
      rw [Int.zero_add]
      refine ⟨_, rfl, _, rfl, a, _, _, _, rfl, rfl, sm.seq hS, at_map hz, ?_⟩
      refine ⟨_, rfl, _, rfl, _, _, rfl, rfl, _, rfl, ite2 (fun c1 => ?_) (fun c1 => iteF ?_)⟩
      · have c1' : r ≤ i := by have := of_decide_eq_true c1; omega
        rw [if_neg (by omega)] at more
        refine ⟨_, rfl, _, rfl, _, _, rfl, rfl, _, rfl, ite2 (fun c2 => ?_) (fun c2 => ?_)⟩
        · have c2' := of_decide_eq_true c2
          refine ⟨_, rfl, _, rfl, _, _, rfl, rfl, _, rfl, ite2 (fun c3 => ?_) (fun c3 => ?_)⟩
          · have c3' := of_decide_eq_true c3
            rw [if_pos (by omega), show min ns[i] (c : Int) = c by omega] at more
            exact ⟨_, rfl, .inl ⟨rfl, _, SqL.of ho⟩, _, rfl, o, _, _, rfl, rfl, ho, small' (by omega), app _ more⟩
          · have c3' := of_decide_eq_false (Bool.eq_false_iff.mpr c3)
            rw [if_neg (by omega), List.append_nil] at more
            exact ⟨_, _, rfl, sm, by rw [more]; exact ho⟩
        · have c2' := of_decide_eq_false (Bool.eq_false_iff.mpr c2)
          rw [if_pos (by omega), show min ns[i] (c : Int) = ns[i] by omega] at more
          refine ⟨_, rfl, _, _, rfl, rfl, _, rfl, ite2 (fun c3 => ?_) (fun c3 => ?_)⟩
          · exact ⟨_, rfl, .inl ⟨rfl, _, SqL.of ho⟩, _, rfl, o, _, _, rfl, rfl, ho, small' (by omega), app _ more⟩
          · have c3' := of_decide_eq_false (Bool.eq_false_iff.mpr c3)
            omega
      · have c1' : i < r := by have := of_decide_eq_false (Bool.eq_false_iff.mpr c1); omega
        rw [if_pos c1'] at more
        refine ⟨_, rfl, _, _, rfl, rfl, _, rfl, ite2 (fun c3 => ?_) (fun c3 => ?_)⟩
        · exact ⟨_, rfl, .inl ⟨rfl, _, SqL.of ho⟩, _, rfl, o, _, _, rfl, rfl, ho, small' (by omega), app _ more⟩
        · have c3' := of_decide_eq_false (Bool.eq_false_iff.mpr c3)
          omega
    · rintro σ H1 ⟨y4, y5, rfl, sm, ho⟩
      rw [hl, Int.toNat_natCast, List.take_length] at ho
      exact ⟨_, rfl, q H1 o sm no ho⟩
end
abbrev s_law_tried : Stmt := topS 21
abbrev N_law_tried : List Str := ["bar", "row", "column", "e"]
theorem sc_law_tried : FnScope N_law_tried ["bar", "row", "column"] (defScope s_law_tried) := ⟨rfl, rfl, rfl, by decide +kernel, rfl, by decide +kernel, by decide +kernel⟩
section
variable {P : Program} {w : World} {K : PySem.W.Frag} {mg : Str → Option Value} {base : Heap}
/-- _law_tried(bar, row, column): a new list, or the error's word -/
theorem ok_law_tried {f : Addr} {fd : FuncData} (F : Fun K "_law_tried" "_law_tried" s_law_tried f fd) {cs : Nat → Addr} {cB : Addr} (T_kinds : Kinds K mg cs cB) (C_bitten : Cal P w K mg base (L2N.CX P w) 3 "bitten" ["bar", "row", "column"] (sp_bitten K cs))
    (C_law_word_of : CalE P w K mg base 1 "_law_word_of" ["e"] (sp_law_word_of K cs)) : FnOk P w K mg base CX0 4 f fd ["bar", "row", "column"] (fun vs H Q _ => sp_bitten K cs vs H Q (fun _ _ H' => ∀ H'', Same H' H'' → Q (.str "bite") H'')) := by
  refine F.ok sc_law_tried (fun vs H Q E h => ?_) (fun cdv A outer s H vs Q E hr h => ?_)
  · obtain ⟨a, ns, r, c, rfl, _⟩ := h
    rfl
  · obtain ⟨a, ns, r, c, rfl, hS, ib, q, qe⟩ := h
    refine ⟨_, (pss_one (L2N.ps_try_as (i := 3) (tb := fun W => tRet (tCallS (sp_bitten K cs) (WE W) (tCons (tVar 0) (tCons (tVar 1) (tCons (tVar 2) tNil))))) (ts := fun a cls d => tRet (tWord K cs a cls d 3)) (Wout := fun _ _ _ _ => False) rfl rfl sc_law_tried.nd rfl rfl ⟨rfl, by decide, Or.inl T_kinds.gB⟩ nobodyN (fun W pn xe tk _ => pss_one (ps_ret (by exact (pe_cS C_bitten hr (by decide) tk (pa_cons (pv 0) (pa_cons (pv 1) (pa_cons (pv 2) pa_nil))))))) (fun a oe cls d pn hz hf => pss_one (ps_ret (by exact (pe_word C_law_word_of hr (by decide) hz hf (pa_cons (pv 3) pa_nil))))))), ?_⟩
    refine ⟨_, rfl, _, rfl, _, rfl, a, ns, r, c, rfl, hS, ib, q, fun hm H2 s2 => ?_⟩
    refine ⟨true, T_kinds.o1.m, fun _ e ne => ?_, fun z => Bool.noConfusion z⟩
    refine ⟨cs 1, 1, "bite", rfl, rfl, rfl, T_kinds.k 1 (by decide), by decide, rfl, fun H3 s3 => ?_⟩
    exact qe hm H2 s2 H3 s3
end
abbrev s_law : Stmt := topS 22
abbrev N_law : List Str := ["script", "bar", "far", "row", "column", "kind", "good", "handed", "turn", "found"]
theorem sc_law : FnScope N_law ["script"] (defScope s_law) := ⟨rfl, rfl, rfl, by decide +kernel, rfl, by decide +kernel, by decide +kernel⟩
section
variable {P : Program} {w : World} {K : PySem.W.Frag} {mg : Str → Option Value} {base : Heap}
/-- what the law calls good -/
theorem good_mem {b : List Int} {r c x : Int} {k : Nat} (hk : r % (b.length : Int) = (k : Int)) (hx : b[k]? = some x) :
    [r, c] ∈ (bitesL b).map pr ↔ (0 ≤ r ∧ r < b.length) ∧ (0 ≤ c ∧ c < x) ∧ r + c > 0 := by
  constructor
  · intro h
    obtain ⟨⟨i, j⟩, hp, e⟩ := List.mem_map.mp h
    have e : [(i : Int), (j : Int)] = [r, c] := e
    injection e with e1 e2
    injection e2 with e2 _
    obtain ⟨y, hy, h1, h2⟩ := mem_bitesL.mp hp
    have hi : i < b.length := (List.getElem?_eq_some_iff.mp hy).1
    have e3 : r % (b.length : Int) = r := Int.emod_eq_of_lt (by omega) (by omega)
    have e4 : k = i := by omega
    rw [e4] at hx
    have hy : b[i]? = some y := hy
    rw [hx] at hy
    have := Option.some.inj hy
    have h1 : (j : Int) < y := h1
    have h2 : 0 < i + j := h2
    refine ⟨⟨by omega, by omega⟩, ⟨by omega, by omega⟩, by omega⟩
  · rintro ⟨⟨h1, h2⟩, ⟨h3, h4⟩, h5⟩
    have e3 : r % (b.length : Int) = r := Int.emod_eq_of_lt h1 h2
    have er : r = (k : Int) := by omega
    have ec : c = ((c.toNat : Nat) : Int) := by omega
    rw [er, ec]
    refine pr_mem.mpr (mem_bitesL.mpr ⟨x, hx, by show ((c.toNat : Nat) : Int) < x; omega, by show 0 < k + c.toNat; omega⟩)
theorem four_at (a b c d : Int) {k : Int} (h0 : 0 ≤ k) (h1 : k < 4) : ∃ v : Int, atI [V.int a, V.int b, V.int c, V.int d] k = some (.int v) := by
  obtain ⟨n, rfl, h⟩ : ∃ n : Nat, k = (n : Int) ∧ n < 4 := ⟨k.toNat, by omega, by omega⟩
  match n, h with
  | 0, _ => exact ⟨a, atI_nat rfl⟩
  | 1, _ => exact ⟨b, atI_nat rfl⟩
  | 2, _ => exact ⟨c, atI_nat rfl⟩
  | 3, _ => exact ⟨d, atI_nat rfl⟩
theorem ok_law {f : Addr} {fd : FuncData} (F : Fun K "law" "law" s_law f fd) (m_len : mg "len" = none) (m_list : mg "list" = none) (m_range : mg "range" = none) (C_law_bar_by : Cal P w K mg base CX0 1 "_law_bar_by" ["cell", "most"] (sp_law_bar_by K)) (C_law_cell_at : Cal P w K mg base CX0 1 "_law_cell_at" ["script", "k"] (sp_law_cell_at K))
    {cs : Nat → Addr} (C_law_tried : Cal P w K mg base CX0 4 "_law_tried" ["bar", "row", "column"] (fun vs H Q _ => sp_bitten K cs vs H Q (fun _ _ H' => ∀ H'', Same H' H'' → Q (.str "bite") H''))) (C_law_behind : Cal P w K mg base CX0 1 "_law_behind" ["bar", "row", "column"] (sp_behind K))
    (C_law_is_list : Cal P w K mg base CX0 2 "_law_is_list" ["found", "due"] (sp_law_is_list K)) : FnOk P w K mg base CX0 5 f fd ["script"] (sp_law K) := by
  refine F.ok sc_law (fun vs H Q E h => ?_) (fun cdv A outer s H vs Q E hr h => ?_)
  · obtain ⟨a, ns, rfl, _⟩ := h
    rfl
  · obtain ⟨a, ns, rfl, hS, h63, q⟩ := h
    refine ⟨_, (pss_cons (ps_set (i := 1) sc_law.nd rfl (.inl rfl) (pe_c C_law_bar_by hr (by decide) pass0 (pa_cons (pe_c C_law_cell_at hr (by decide) pass0 (pa_cons (pv 0) (pa_cons pe_int pa_nil))) (pa_cons pe_int pa_nil))))
      (pss_cons (ps_set (i := 2) sc_law.nd rfl (.inl rfl) (pe_op op_mod (pe_c C_law_cell_at hr (by decide) pass0 (pa_cons (pv 0) (pa_cons pe_int pa_nil))) (pe_op op_pow pe_int pe_int)))
      (pss_cons (ps_set (i := 3) sc_law.nd rfl (.inl rfl) (pe_op op_mod (pe_c C_law_cell_at hr (by decide) pass0 (pa_cons (pv 0) (pa_cons pe_int pa_nil))) (pe_callB (lenK (K := K)) (by rfl) m_len PySem.boot_len (pa_cons (pv 1) pa_nil))))
      (pss_cons (ps_set (i := 4) sc_law.nd rfl (.inl rfl) (pe_op op_mod (pe_c C_law_cell_at hr (by decide) pass0 (pa_cons (pv 0) (pa_cons pe_int pa_nil))) (pe_ix (ixK (K := K)) (pv 1) (pv 3) (fun _ _ => rfl))))
      (pss_cons (ps_set (i := 5) sc_law.nd rfl (.inl rfl) (pe_op op_mod (pe_c C_law_cell_at hr (by decide) pass0 (pa_cons (pv 0) (pa_cons pe_int pa_nil))) pe_int))
      (C8.pss_cut (ps_if (pt_cmpR op_eq (pv 5) pe_int (nomark _))
        (pss_one (ps_set (i := 4) sc_law.nd rfl (.inl rfl) (pe_ix (ixK (K := K)) (pe_lst (pa_cons (pe_ix (ixK (K := K)) (pv 1) (pv 3) (fun _ _ => rfl)) (pa_cons (pe_op op_add (pe_ix (ixK (K := K)) (pv 1) (pv 3) (fun _ _ => rfl)) (pv 2)) (pa_cons (pe_un un_neg pe_int) (pa_cons (pe_op op_sub (pe_un un_neg pe_int) (pv 2)) pa_nil))))) (pe_op op_mod (pe_op op_fdiv (pe_c C_law_cell_at hr (by decide) pass0 (pa_cons (pv 0) (pa_cons pe_int pa_nil))) pe_int) pe_int) (fun _ _ => rfl))))
        pss_nil)
      (C8.pss_cut (ps_if (pt_cmpR op_eq (pv 5) pe_int (nomark _))
        (pss_one (ps_set (i := 3) sc_law.nd rfl (.inl rfl) (pe_ix (ixK (K := K)) (pe_lst (pa_cons (pe_callB (lenK (K := K)) (by rfl) m_len PySem.boot_len (pa_cons (pv 1) pa_nil)) (pa_cons (pe_op op_add (pe_callB (lenK (K := K)) (by rfl) m_len PySem.boot_len (pa_cons (pv 1) pa_nil)) (pv 2)) (pa_cons (pe_un un_neg pe_int) (pa_cons (pe_op op_sub (pe_un un_neg pe_int) (pv 2)) pa_nil))))) (pe_op op_mod (pe_op op_fdiv (pe_c C_law_cell_at hr (by decide) pass0 (pa_cons (pv 0) (pa_cons pe_int pa_nil))) pe_int) pe_int) (fun _ _ => rfl))))
        pss_nil)
      (C8.pss_cut (ps_set (i := 6) sc_law.nd rfl (.inl rfl) (pe_and (pe_chain op_le op_lt pe_int (pv 3) (pe_callB (lenK (K := K)) (by rfl) m_len PySem.boot_len (pa_cons (pv 1) pa_nil))) (pe_and (pe_chain op_le op_lt pe_int (pv 4) (pe_ix (ixK (K := K)) (pv 1) (pe_op op_mod (pv 3) (pe_callB (lenK (K := K)) (by rfl) m_len PySem.boot_len (pa_cons (pv 1) pa_nil))) (fun _ _ => rfl))) (pe_one (pe_cmpR op_gt (pe_op op_add (pv 3) (pv 4)) pe_int (nomark _))))))
      (pss_cons (ps_set (i := 7) sc_law.nd rfl (.inl rfl) (pe_callTy (listK (K := K)) (by rfl) m_list (by decide +kernel) (pa_cons (pv 1) pa_nil)))
      (pss_cons (ps_for PassesOwn.never rfl (pi_range1 (by rfl) m_range (pa_cons pe_int pa_nil)) (pg_name (i := 8) sc_law.nd rfl (.inl rfl))
        (pss_cons (ps_set (i := 9) sc_law.nd rfl (.inl rfl) (pe_c C_law_tried hr (by decide) pass0 (pa_cons (pv 7) (pa_cons (pv 3) (pa_cons (pv 4) pa_nil)))))
        (pss_cons (ps_if (pt_cmpR (neDK (K := K) hr.units) (pv 7) (pv 1) (nomark _))
          (pss_one (ps_ret pe_bl))
          pss_nil)
        (pss_cons (ps_if (pt_not (pt_val (pv 6)))
          (pss_one (ps_ret (pe_cmpR op_eq (pv 9) pe_str (nomark _))))
          pss_nil)
        (pss_cons (ps_if (pt_not (pt_val (pe_c C_law_is_list hr (by decide) pass0 (pa_cons (pv 9) (pa_cons (pe_c C_law_behind hr (by decide) pass0 (pa_cons (pv 1) (pa_cons (pv 3) (pa_cons (pv 4) pa_nil)))) pa_nil)))))
          (pss_one (ps_ret pe_bl))
          pss_nil)
        (pss_one (ps_expr (pe_bmK (K := K) PySem.F.plainAttrs_list PySem.F.slot_list_append PySem.F.type_list_append mt_append (pv 9) (pa_cons pe_int pa_nil)))))))))
      (pss_one (ps_ret (pe_cmpR (eqDK (K := K) hr.units) (pv 7) (pv 1) (nomark _)))))))))))))), ?_⟩
    refine ⟨_, rfl, a, ns, 0, rfl, hS, _, 5, rfl, by omega, by omega, fun H1 b bs s1 nb hb ib => ?_⟩
    have hS1 := s1.seq hS
    have lb := List.length_map (as := bs) V.int
    have lpos := ib.ne
    refine ⟨_, rfl, a, ns, 4, rfl, hS1, _, _, rfl, rfl, by show (0:Int) ≤ 20 ∧ (20:Int) ≤ 1000000 ∧ (10:Int).natAbs < 2 ^ 64; decide, _, _, rfl, rfl, by show (0 : Int) < 10 ^ (20 : Int).toNat; decide, ?_⟩
    refine ⟨_, rfl, a, ns, 1, rfl, hS1, _, rfl, b, _, rfl, .inl (SqL.of hb), _, _, rfl, rfl, by show (0 : Int) < ((bs.map V.int).length : Int); omega, ?_⟩
    obtain ⟨i, ei, hi⟩ : ∃ i : Nat, cellAt ns 1 % ((bs.map V.int).length : Int) = (i : Int) ∧ i < bs.length := by
      have h0 := Int.emod_nonneg (cellAt ns 1) (show ((bs.map V.int).length : Int) ≠ 0 by omega)
      have h1 := Int.emod_lt_of_pos (cellAt ns 1) (show (0 : Int) < ((bs.map V.int).length : Int) by omega)
      exact ⟨(cellAt ns 1 % ((bs.map V.int).length : Int)).toNat, by omega, by omega⟩
    have hz := List.getElem?_eq_getElem hi
    have hx := ib.rg bs[i] (List.getElem_mem hi)
    refine ⟨_, rfl, a, ns, 2, rfl, hS1, _, rfl, _, rfl, b, _, (i : Int), _, rfl, congrArg V.int ei, SqL.of hb, at_map hz, _, _, rfl, rfl, by show (0 : Int) < bs[i]; omega, ?_⟩
    refine ⟨_, rfl, a, ns, 3, rfl, hS1, _, _, rfl, rfl, by show (0 : Int) < 8; decide, ?_⟩
    -- column, if kind == 1
    refine ⟨fun σ' H' => ∃ far c kd : Int, σ' = [some (.ref a), some (.ref b), some (.int far), some (.int (i : Nat)), some (.int c), some (.int kd), none, none, none, none] ∧ Same H1 H', ?_, ?_⟩
    · have keep : ∀ c : Int, [some (V.ref a), some (V.ref b), some (V.int (cellAt ns 4 % 10 ^ (20 : Int).toNat)), some (V.int (cellAt ns 1 % ((bs.map V.int).length : Int))), some (V.int c), some (V.int (cellAt ns 3 % 8)), none, none, none, none] =
          [some (V.ref a), some (V.ref b), some (V.int (cellAt ns 4 % 10 ^ (20 : Int).toNat)), some (V.int (i : Nat)), some (V.int c), some (V.int (cellAt ns 3 % 8)), none, none, none, none] := fun c => by rw [ei]
      refine ⟨_, rfl, rfl, _, rfl, d2_ (fun h => ?_) (fun h => ⟨_, _, _, keep _, Same.refl _⟩)⟩
      refine ⟨_, rfl, _, rfl, b, _, (i : Int), _, rfl, congrArg V.int ei, SqL.of hb, at_map hz, ?_⟩
      refine ⟨_, rfl, _, rfl, b, _, (i : Int), _, rfl, congrArg V.int ei, SqL.of hb, at_map hz, _, rfl, _, _, rfl, rfl, ?_⟩
      refine ⟨_, rfl, _, rfl, _, rfl, _, _, rfl, rfl, ?_⟩
      refine ⟨by show 4 ≤ sizeLine; decide, fun g ng => ?_⟩
      have s2 := sNew (o := .lst [.int bs[i], .int (bs[i] + cellAt ns 4 % 10 ^ (20 : Int).toNat), .int (-1), .int (-1 - cellAt ns 4 % 10 ^ (20 : Int).toNat)]) ng
      obtain ⟨v, hv⟩ := four_at bs[i] (bs[i] + cellAt ns 4 % 10 ^ (20 : Int).toNat) (-1) (-1 - cellAt ns 4 % 10 ^ (20 : Int).toNat) (show 0 ≤ cellAt ns 3 / 8 % 4 by omega) (show cellAt ns 3 / 8 % 4 < 4 by omega)
      refine ⟨_, rfl, a, ns, 3, rfl, s2.seq hS1, _, _, rfl, rfl, by show (0 : Int) < 8 ∧ (8 : Int) < 1073741824; decide, _, _, rfl, rfl, by show (0 : Int) < 4; decide, ?_⟩
      refine ⟨g, _, _, _, rfl, rfl, SqL.of upd_same, hv, ?_⟩
      exact ⟨_, _, _, keep _, s2⟩
    clear ei hx hz
    rintro σ' H2 ⟨far, c, kd, rfl, s2⟩
    -- row, if kind == 2
    refine ⟨fun σ' H' => ∃ far r c kd : Int, σ' = [some (.ref a), some (.ref b), some (.int far), some (.int r), some (.int c), some (.int kd), none, none, none, none] ∧ Same H1 H', ?_, ?_⟩
    · refine ⟨_, rfl, rfl, _, rfl, d2_ (fun h => ?_) (fun h => ⟨_, _, _, _, rfl, s2⟩)⟩
      have hb2 := SqL.of (K := K) (s2 _ _ hb)
      refine ⟨_, rfl, b, _, rfl, .inl hb2, ?_⟩
      refine ⟨_, rfl, b, _, rfl, .inl hb2, _, rfl, _, _, rfl, rfl, ?_⟩
      refine ⟨_, rfl, _, rfl, _, rfl, _, _, rfl, rfl, ?_⟩
      refine ⟨by show 4 ≤ sizeLine; decide, fun g ng => ?_⟩
      have s3 := sNew (o := .lst [.int ((bs.map V.int).length : Nat), .int (((bs.map V.int).length : Nat) + far), .int (-1), .int (-1 - far)]) ng
      obtain ⟨v, hv⟩ := four_at ((bs.map V.int).length : Nat) (((bs.map V.int).length : Nat) + far) (-1) (-1 - far) (show 0 ≤ cellAt ns 3 / 8 % 4 by omega) (show cellAt ns 3 / 8 % 4 < 4 by omega)
      refine ⟨_, rfl, a, ns, 3, rfl, (s2.trans s3).seq hS1, _, _, rfl, rfl, by show (0 : Int) < 8 ∧ (8 : Int) < 1073741824; decide, _, _, rfl, rfl, by show (0 : Int) < 4; decide, ?_⟩
      refine ⟨g, _, _, _, rfl, rfl, SqL.of upd_same, hv, ?_⟩
      exact ⟨_, _, _, _, rfl, s2.trans s3⟩
    clear s2 hi i far c kd H2
    rintro σ' H2 ⟨far, r, c, kd, rfl, s2⟩
    have hb2 := s2 _ _ hb
    obtain ⟨k, ek, hk⟩ : ∃ k : Nat, r % ((bs.map V.int).length : Int) = (k : Int) ∧ k < bs.length := by
      have h0 := Int.emod_nonneg r (show ((bs.map V.int).length : Int) ≠ 0 by omega)
      have h1 := Int.emod_lt_of_pos r (show (0 : Int) < ((bs.map V.int).length : Int) by omega)
      exact ⟨(r % ((bs.map V.int).length : Int)).toNat, by omega, by omega⟩
    have hz := List.getElem?_eq_getElem hk
    have gm : [r, c] ∈ (bitesL bs).map pr ↔ (0 ≤ r ∧ r < bs.length) ∧ (0 ≤ c ∧ c < bs[k]) ∧ r + c > 0 := good_mem (by rw [← lb]; exact ek) hz
    -- good
    refine ⟨fun σ' H' => ∃ (g : Bool) (far kd : Int), σ' = [some (.ref a), some (.ref b), some (.int far), some (.int r), some (.int c), some (.int kd), some (.bl g), none, none, none] ∧ H' = H2 ∧ (g = true ↔ [r, c] ∈ (bitesL bs).map pr), ?_, ?_⟩
    · have no : ¬ ([r, c] ∈ (bitesL bs).map pr) → (false = true ↔ [r, c] ∈ (bitesL bs).map pr) := fun h => ⟨fun z => Bool.noConfusion z, fun z => absurd z h⟩
      refine ⟨_, rfl, _, _, rfl, rfl, _, rfl, d2_ (fun h1 => ?_) (fun h1 => ⟨false, rfl, iteF ⟨false, _, _, rfl, rfl, no fun z => h1 (gm.mp z).1.1⟩⟩)⟩
      refine ⟨_, rfl, b, _, rfl, .inl (SqL.of hb2), _, _, rfl, rfl, _, rfl, d2_ (fun h2 => ?_) (fun h2 => ⟨false, _, _, rfl, rfl, no fun z => h2 (by rw [lb]; exact (gm.mp z).1.2)⟩)⟩
      refine ⟨_, rfl, _, _, rfl, rfl, _, rfl, d2_ (fun h3 => ?_) (fun h3 => ⟨false, rfl, iteF ⟨false, _, _, rfl, rfl, no fun z => h3 (gm.mp z).2.1.1⟩⟩)⟩
      refine ⟨_, rfl, _, rfl, _, rfl, b, _, rfl, .inl (SqL.of hb2), _, _, rfl, rfl, by show (0 : Int) < ((bs.map V.int).length : Int); omega, ?_⟩
      refine ⟨b, _, (k : Int), _, rfl, congrArg V.int ek, SqL.of hb2, at_map hz, _, _, rfl, rfl, _, rfl, d2_ (fun h4 => ?_) (fun h4 => ⟨false, _, _, rfl, rfl, no fun z => h4 (gm.mp z).2.1.2⟩)⟩
      refine ⟨_, rfl, _, rfl, _, _, rfl, rfl, _, _, rfl, rfl, _, _, _, rfl, rfl, ?_⟩
      rw [decide_eq_true_iff]
      exact ⟨fun h5 => gm.mpr ⟨⟨h1, by rw [← lb]; exact h2⟩, ⟨h3, h4⟩, h5⟩, fun z => (gm.mp z).2.2⟩
    clear gm hz hk ek kd far
    rintro σ' H3 ⟨g, far, kd, rfl, rfl, gi⟩
    refine ⟨_, rfl, b, _, rfl, .inl (SqL.of hb2), fun h nh => ?_⟩
    have s3 : Same H3 (upd H3 h (.lst (bs.map V.int))) := sNew nh
    have hh4 : upd H3 h (.lst (bs.map V.int)) h = some (.lst (bs.map V.int)) := upd_same
    generalize upd H3 h (.lst (bs.map V.int)) = H4 at s3 hh4 ⊢
    have hb4 := s3 _ _ hb2
    refine ⟨2, rfl, by decide, by decide, for_range (lo := 0) (fun _ σ H' => ∃ v8 v9 : Option V, σ = [some (.ref a), some (.ref b), some (.int far), some (.int r), some (.int c), some (.int kd), some (.bl g), some (.ref h), v8, v9] ∧ Same H4 H') ⟨none, none, rfl, Same.refl _⟩ ?_ ?_⟩
    · rintro t σ H5 _ ⟨v8, v9, rfl, s5⟩
      have hh5 := s5 _ _ hh4
      have hb5 := s5 _ _ hb4
      refine ⟨_, rfl, _, rfl, _, rfl, h, bs, r, c, rfl, SqL.of hh5, ib, (fun i j er ec hm H6 p s6 np hp => ?_), (fun hm H6 s6 H7 s7 => ?_)⟩
      · subst er ec
        have ge : g = true := gi.mpr (pr_mem.mpr hm)
        subst ge
        refine ⟨_, rfl, _, rfl, _, _, dp_list (SqL.of (s6 _ _ hh5)), dp_list (SqL.of (s6 _ _ hb5)), shaped_list _, shaped_list _, _, rfl, ?_⟩
        rw [eqv_list, decide_eq_true rfl]
        refine iteF ⟨_, rfl, true, rfl, iteF ?_⟩
        refine ⟨_, rfl, _, rfl, _, rfl, _, rfl, b, bs, i, j, rfl, SqL.of (s6 _ _ hb5), ib, hm, fun H7 z s7 nz hz => ?_⟩
        have ln : (behindL bs i j).length ≤ 5 := by
          have h5 : ((behindL bs i j).length : Int) ≤ 5 := (isBar_behind ib hm).le
          omega
        refine ⟨p, z, _, rfl, s7 _ _ hp, hz, by omega, true, rfl, iteF ?_⟩
        refine ⟨_, rfl, .inl ⟨rfl, _, SqL.of (s7 _ _ hp)⟩, p, _, _, rfl, rfl, s7 _ _ hp, small' (by rw [List.length_map]; omega), ?_⟩
        exact ⟨_, _, rfl, sPut (s5.trans (s6.trans s7)) (s5.free np)⟩
      · have ge : g = false := Bool.eq_false_iff.mpr fun z => hm (gi.mp z)
        subst ge
        have s67 := s6.trans s7
        refine ⟨_, rfl, _, rfl, _, _, dp_list (SqL.of (s67 _ _ hh5)), dp_list (SqL.of (s67 _ _ hb5)), shaped_list _, shaped_list _, _, rfl, ?_⟩
        rw [eqv_list, decide_eq_true rfl]
        refine iteF ⟨_, rfl, false, rfl, iteT ?_⟩
        refine ⟨_, rfl, rfl, ?_⟩
        rw [decide_eq_true rfl]
        exact q _
    · rintro σ H5 ⟨v8, v9, rfl, s5⟩
      refine ⟨_, rfl, _, rfl, _, _, dp_list (SqL.of (s5 _ _ hh4)), dp_list (SqL.of (s5 _ _ hb4)), shaped_list _, shaped_list _, ?_⟩
      rw [eqv_list, decide_eq_true rfl]
      exact q _
end
theorem all_mk {l : PySem.W.OpenLaw} {w : World} {K : PySem.W.Frag} {h : Heap} {mg : Str → Option Value} {fa f0 f1 f2 f3 f4 f5 f6 f7 f8 f9 f10 f11 f12 : Addr} (X : K.In h) (G : h.Ns mainGlobals mg) (hfa : mg "law" = some (.ref fa))
    {od0 an0 od1 an1 od2 an2 od3 an3 od4 an4 od5 an5 od6 an6 od7 an7 od8 an8 od9 an9 od10 an10 od11 an11 od12 an12 : Option Addr} {sl0 sl1 sl2 sl3 sl4 sl5 sl6 sl7 sl8 sl9 sl10 sl11 sl12 : Array (Option Value)} {oc0 kV0 dc0 pm0 cd0 ct0 oc1 kV1 dc1 pm1 cd1 ct1 oc2 kV2 dc2 pm2 cd2 ct2 oc3 kV3 dc3 pm3 cd3 ct3 oc4 kV4 dc4 pm4 cd4 ct4 oc5 kV5 dc5 pm5 cd5 ct5 oc6 kV6 dc6 pm6 cd6 ct6 oc7 kV7 dc7 pm7 cd7 ct7 oc8 kV8 dc8 pm8 cd8 ct8 oc9 kV9 dc9 pm9 cd9 ct9 oc10 kV10 dc10 pm10 cd10 ct10 oc11 kV11 dc11 pm11 cd11 ct11 oc12 kV12 dc12 pm12 cd12 ct12 : Value}
    (a0 : PySem.W.nsIn K mainGlobals "is_bar" = some (some (.ref f0))) (l0 : K.lookup f0 = some ⟨oc0, od0, .func (PySem.W.fnOf "is_bar" "is_bar" (defArgs s_is_bar) (defBody s_is_bar) (defScope s_is_bar) .none kV0 dc0 pm0 an0 cd0 ct0), sl0⟩) (c0 : PySem.W.codeIn K cd0 "is_bar" = true) (k0 : PySem.W.keepIn K (.ref f0) = true)
    (a1 : PySem.W.nsIn K mainGlobals "asked_bar" = some (some (.ref f1))) (l1 : K.lookup f1 = some ⟨oc1, od1, .func (PySem.W.fnOf "asked_bar" "asked_bar" (defArgs s_asked_bar) (defBody s_asked_bar) (defScope s_asked_bar) .none kV1 dc1 pm1 an1 cd1 ct1), sl1⟩) (c1 : PySem.W.codeIn K cd1 "asked_bar" = true) (k1 : PySem.W.keepIn K (.ref f1) = true)
    (a2 : PySem.W.nsIn K mainGlobals "bites_of" = some (some (.ref f2))) (l2 : K.lookup f2 = some ⟨oc2, od2, .func (PySem.W.fnOf "bites_of" "bites_of" (defArgs s_bites_of) (defBody s_bites_of) (defScope s_bites_of) .none kV2 dc2 pm2 an2 cd2 ct2), sl2⟩) (c2 : PySem.W.codeIn K cd2 "bites_of" = true) (k2 : PySem.W.keepIn K (.ref f2) = true)
    (a3 : PySem.W.nsIn K mainGlobals "behind" = some (some (.ref f3))) (l3 : K.lookup f3 = some ⟨oc3, od3, .func (PySem.W.fnOf "behind" "behind" (defArgs s_behind) (defBody s_behind) (defScope s_behind) .none kV3 dc3 pm3 an3 cd3 ct3), sl3⟩) (c3 : PySem.W.codeIn K cd3 "behind" = true) (k3 : PySem.W.keepIn K (.ref f3) = true)
    (a4 : PySem.W.nsIn K mainGlobals "bitten" = some (some (.ref f4))) (l4 : K.lookup f4 = some ⟨oc4, od4, .func (PySem.W.fnOf "bitten" "bitten" (defArgs s_bitten) (defBody s_bitten) (defScope s_bitten) .none kV4 dc4 pm4 an4 cd4 ct4), sl4⟩) (c4 : PySem.W.codeIn K cd4 "bitten" = true) (k4 : PySem.W.keepIn K (.ref f4) = true)
    (a5 : PySem.W.nsIn K mainGlobals "_law_cell_at" = some (some (.ref f5))) (l5 : K.lookup f5 = some ⟨oc5, od5, .func (PySem.W.fnOf "_law_cell_at" "_law_cell_at" (defArgs s_law_cell_at) (defBody s_law_cell_at) (defScope s_law_cell_at) .none kV5 dc5 pm5 an5 cd5 ct5), sl5⟩) (c5 : PySem.W.codeIn K cd5 "_law_cell_at" = true) (k5 : PySem.W.keepIn K (.ref f5) = true)
    (a6 : PySem.W.nsIn K mainGlobals "_law_whole" = some (some (.ref f6))) (l6 : K.lookup f6 = some ⟨oc6, od6, .func (PySem.W.fnOf "_law_whole" "_law_whole" (defArgs s_law_whole) (defBody s_law_whole) (defScope s_law_whole) .none kV6 dc6 pm6 an6 cd6 ct6), sl6⟩) (c6 : PySem.W.codeIn K cd6 "_law_whole" = true) (k6 : PySem.W.keepIn K (.ref f6) = true)
    (a7 : PySem.W.nsIn K mainGlobals "_law_is_list" = some (some (.ref f7))) (l7 : K.lookup f7 = some ⟨oc7, od7, .func (PySem.W.fnOf "_law_is_list" "_law_is_list" (defArgs s_law_is_list) (defBody s_law_is_list) (defScope s_law_is_list) .none kV7 dc7 pm7 an7 cd7 ct7), sl7⟩) (c7 : PySem.W.codeIn K cd7 "_law_is_list" = true) (k7 : PySem.W.keepIn K (.ref f7) = true)
    (a8 : PySem.W.nsIn K mainGlobals "_law_word_of" = some (some (.ref f8))) (l8 : K.lookup f8 = some ⟨oc8, od8, .func (PySem.W.fnOf "_law_word_of" "_law_word_of" (defArgs s_law_word_of) (defBody s_law_word_of) (defScope s_law_word_of) .none kV8 dc8 pm8 an8 cd8 ct8), sl8⟩) (c8 : PySem.W.codeIn K cd8 "_law_word_of" = true) (k8 : PySem.W.keepIn K (.ref f8) = true)
    (a9 : PySem.W.nsIn K mainGlobals "_law_bar_by" = some (some (.ref f9))) (l9 : K.lookup f9 = some ⟨oc9, od9, .func (PySem.W.fnOf "_law_bar_by" "_law_bar_by" (defArgs s_law_bar_by) (defBody s_law_bar_by) (defScope s_law_bar_by) .none kV9 dc9 pm9 an9 cd9 ct9), sl9⟩) (c9 : PySem.W.codeIn K cd9 "_law_bar_by" = true) (k9 : PySem.W.keepIn K (.ref f9) = true)
    (a10 : PySem.W.nsIn K mainGlobals "_law_behind" = some (some (.ref f10))) (l10 : K.lookup f10 = some ⟨oc10, od10, .func (PySem.W.fnOf "_law_behind" "_law_behind" (defArgs s_law_behind) (defBody s_law_behind) (defScope s_law_behind) .none kV10 dc10 pm10 an10 cd10 ct10), sl10⟩) (c10 : PySem.W.codeIn K cd10 "_law_behind" = true) (k10 : PySem.W.keepIn K (.ref f10) = true)
    (a11 : PySem.W.nsIn K mainGlobals "_law_tried" = some (some (.ref f11))) (l11 : K.lookup f11 = some ⟨oc11, od11, .func (PySem.W.fnOf "_law_tried" "_law_tried" (defArgs s_law_tried) (defBody s_law_tried) (defScope s_law_tried) .none kV11 dc11 pm11 an11 cd11 ct11), sl11⟩) (c11 : PySem.W.codeIn K cd11 "_law_tried" = true) (k11 : PySem.W.keepIn K (.ref f11) = true)
    (a12 : PySem.W.nsIn K mainGlobals "law" = some (some (.ref f12))) (l12 : K.lookup f12 = some ⟨oc12, od12, .func (PySem.W.fnOf "law" "law" (defArgs s_law) (defBody s_law) (defScope s_law) .none kV12 dc12 pm12 an12 cd12 ct12), sl12⟩) (c12 : PySem.W.codeIn K cd12 "law" = true) (k12 : PySem.W.keepIn K (.ref f12) = true)
    (z_len : PySem.W.nsIn K mainGlobals "len" = some none)
    (z_range : PySem.W.nsIn K mainGlobals "range" = some none)
    (z_int : PySem.W.nsIn K mainGlobals "int" = some none)
    (z_list : PySem.W.nsIn K mainGlobals "list" = some none)
    (z_min : PySem.W.nsIn K mainGlobals "min" = some none)
    (z_isinstance : PySem.W.nsIn K mainGlobals "isinstance" = some none)
    (z_bool : PySem.W.nsIn K mainGlobals "bool" = some none)
    (z_ValueError : PySem.W.nsIn K mainGlobals "ValueError" = some none)
    (z_sorted : PySem.W.nsIn K mainGlobals "sorted" = some none)
    {t_MOST_ROWS : Tok} (y_MOST_ROWS : PySem.W.nsIn K mainGlobals "MOST_ROWS" = some (some (.int 5 t_MOST_ROWS)))
    {t_MOST_PIECES : Tok} (y_MOST_PIECES : PySem.W.nsIn K mainGlobals "MOST_PIECES" = some (some (.int 5 t_MOST_PIECES)))
    {e0 e1 e2 e3 eB : Addr} (ce_a : PySem.W.nsIn K mainGlobals "BiteError" = some (some (.ref eB))) (cB_b : PySem.W.subIn K (.ref eB) (.type "BaseException") = some true) (cB_d : PySem.W.hasDictIn K eB = true) (cB_t : PySem.W.typeIn K (.ref eB) = some (.type "type"))
    (cs_n : PySem.W.specialIn K (.builtin "object.__class__") "__get__" = some (some (.builtin "getset_descriptor.__get__"))) (cs_t : PySem.W.takesIn K (.builtin "object.__class__") = some true)
    (ca_0 : PySem.W.nsIn K mainGlobals "NoBar" = some (some (.ref e0))) (cx_0 : PySem.W.excIn K e0 [.type "ValueError", .type "Exception", .type "BaseException", .type "object"] "ValueError.__new__" = true) (ck_0 : PySem.W.keepIn K (.ref e0) = true)
    (cb_0 : PySem.W.subIn K (.ref e0) (.type "BaseException") = some true) (ct_0 : PySem.W.typeIn K (.ref e0) = some (.type "type")) (cm_0 : PySem.W.subIn K (.ref e0) (.ref eB) = some true) (cv_0 : PySem.W.kitOne K (.ref e0) (.type "ValueError") = some true)
    (ch_0 : PySem.W.findIn K (.ref e0) "__getattribute__" = some (some (.builtin "BaseException.__getattribute__"))) (cg_0 : PySem.W.findIn K (.ref e0) "__getattr__" = some none) (cy_0 : PySem.W.hasDictIn K e0 = true)
    (cd_0 : PySem.W.findIn K (.ref e0) "__class__" = some (some (.builtin "object.__class__"))) (cj_0 : PySem.W.mroIn K e0 (.type "object") = some true)
    (ca_1 : PySem.W.nsIn K mainGlobals "NoBite" = some (some (.ref e1))) (cx_1 : PySem.W.excIn K e1 [.type "ValueError", .type "Exception", .type "BaseException", .type "object"] "ValueError.__new__" = true) (ck_1 : PySem.W.keepIn K (.ref e1) = true)
    (cb_1 : PySem.W.subIn K (.ref e1) (.type "BaseException") = some true) (ct_1 : PySem.W.typeIn K (.ref e1) = some (.type "type")) (cm_1 : PySem.W.subIn K (.ref e1) (.ref eB) = some true) (cv_1 : PySem.W.kitOne K (.ref e1) (.type "ValueError") = some true)
    (ch_1 : PySem.W.findIn K (.ref e1) "__getattribute__" = some (some (.builtin "BaseException.__getattribute__"))) (cg_1 : PySem.W.findIn K (.ref e1) "__getattr__" = some none) (cy_1 : PySem.W.hasDictIn K e1 = true)
    (cd_1 : PySem.W.findIn K (.ref e1) "__class__" = some (some (.builtin "object.__class__"))) (cj_1 : PySem.W.mroIn K e1 (.type "object") = some true)
    (ca_2 : PySem.W.nsIn K mainGlobals "NoTable" = some (some (.ref e2))) (cx_2 : PySem.W.excIn K e2 [.type "ValueError", .type "Exception", .type "BaseException", .type "object"] "ValueError.__new__" = true) (ck_2 : PySem.W.keepIn K (.ref e2) = true)
    (cb_2 : PySem.W.subIn K (.ref e2) (.type "BaseException") = some true) (ct_2 : PySem.W.typeIn K (.ref e2) = some (.type "type")) (cm_2 : PySem.W.subIn K (.ref e2) (.ref eB) = some true) (cv_2 : PySem.W.kitOne K (.ref e2) (.type "ValueError") = some true)
    (ch_2 : PySem.W.findIn K (.ref e2) "__getattribute__" = some (some (.builtin "BaseException.__getattribute__"))) (cg_2 : PySem.W.findIn K (.ref e2) "__getattr__" = some none) (cy_2 : PySem.W.hasDictIn K e2 = true)
    (cd_2 : PySem.W.findIn K (.ref e2) "__class__" = some (some (.builtin "object.__class__"))) (cj_2 : PySem.W.mroIn K e2 (.type "object") = some true)
    (ca_3 : PySem.W.nsIn K mainGlobals "NoNote" = some (some (.ref e3))) (cx_3 : PySem.W.excIn K e3 [.type "ValueError", .type "Exception", .type "BaseException", .type "object"] "ValueError.__new__" = true) (ck_3 : PySem.W.keepIn K (.ref e3) = true)
    (cb_3 : PySem.W.subIn K (.ref e3) (.type "BaseException") = some true) (ct_3 : PySem.W.typeIn K (.ref e3) = some (.type "type")) (cm_3 : PySem.W.subIn K (.ref e3) (.ref eB) = some true) (cv_3 : PySem.W.kitOne K (.ref e3) (.type "ValueError") = some true)
    (ch_3 : PySem.W.findIn K (.ref e3) "__getattribute__" = some (some (.builtin "BaseException.__getattribute__"))) (cg_3 : PySem.W.findIn K (.ref e3) "__getattr__" = some none) (cy_3 : PySem.W.hasDictIn K e3 = true)
    (cd_3 : PySem.W.findIn K (.ref e3) "__class__" = some (some (.builtin "object.__class__"))) (cj_3 : PySem.W.mroIn K e3 (.type "object") = some true)
    (ck_00 : PySem.W.kitOne K (.ref e0) (.ref e0) = some true) (ck_01 : PySem.W.kitOne K (.ref e0) (.ref e1) = some false) (ck_02 : PySem.W.kitOne K (.ref e0) (.ref e2) = some false) (ck_03 : PySem.W.kitOne K (.ref e0) (.ref e3) = some false)
    (ck_10 : PySem.W.kitOne K (.ref e1) (.ref e0) = some false) (ck_11 : PySem.W.kitOne K (.ref e1) (.ref e1) = some true) (ck_12 : PySem.W.kitOne K (.ref e1) (.ref e2) = some false) (ck_13 : PySem.W.kitOne K (.ref e1) (.ref e3) = some false)
    (ck_20 : PySem.W.kitOne K (.ref e2) (.ref e0) = some false) (ck_21 : PySem.W.kitOne K (.ref e2) (.ref e1) = some false) (ck_22 : PySem.W.kitOne K (.ref e2) (.ref e2) = some true) (ck_23 : PySem.W.kitOne K (.ref e2) (.ref e3) = some false)
    (ck_30 : PySem.W.kitOne K (.ref e3) (.ref e0) = some false) (ck_31 : PySem.W.kitOne K (.ref e3) (.ref e1) = some false) (ck_32 : PySem.W.kitOne K (.ref e3) (.ref e2) = some false) (ck_33 : PySem.W.kitOne K (.ref e3) (.ref e3) = some true)
    : ∃ fd : FuncData, (∀ (s : Shared) (v : Value), BindsTo s fd ⟨[v], []⟩ [("script", v)]) ∧ ∀ base : Heap, K.In base → base.Ns mainGlobals mg → FnOk l.prog w K mg base CX0 60 fa fd ["script"] (sp_law K) := by
  have e := hfa.symm.trans (PySem.W.mg_of X G a12)
  cases e
  have m_len := PySem.W.mg_none_of X G z_len
  have m_range := PySem.W.mg_none_of X G z_range
  have m_int := PySem.W.mg_none_of X G z_int
  have m_list := PySem.W.mg_none_of X G z_list
  have m_min := PySem.W.mg_none_of X G z_min
  have m_isinstance := PySem.W.mg_none_of X G z_isinstance
  have m_bool := PySem.W.mg_none_of X G z_bool
  have m_ValueError := PySem.W.mg_none_of X G z_ValueError
  have m_sorted := PySem.W.mg_none_of X G z_sorted
  have g_MOST_ROWS := PySem.W.mg_of X G y_MOST_ROWS
  have g_MOST_PIECES := PySem.W.mg_of X G y_MOST_PIECES
  have T_kinds : Kinds K mg (fun j => match j with | 0 => e0 | 1 => e1 | 2 => e2 | _ => e3) eB :=
    { gB := PySem.W.mg_of X G ce_a, o0 := ⟨PySem.W.mg_of X G ca_0, cx_0, ck_0, cb_0, ct_0, PySem.W.exm_ref cB_b cB_d cB_t cm_0⟩, o1 := ⟨PySem.W.mg_of X G ca_1, cx_1, ck_1, cb_1, ct_1, PySem.W.exm_ref cB_b cB_d cB_t cm_1⟩, o2 := ⟨PySem.W.mg_of X G ca_2, cx_2, ck_2, cb_2, ct_2, PySem.W.exm_ref cB_b cB_d cB_t cm_2⟩, o3 := ⟨PySem.W.mg_of X G ca_3, cx_3, ck_3, cb_3, ct_3, PySem.W.exm_ref cB_b cB_d cB_t cm_3⟩,
      k := fun i hi => match i, hi with
        | 0, _ => ⟨⟨ch_0, cg_0, cb_0, cy_0, cd_0, cs_n, cs_t, cj_0⟩, cv_0, fun j hj => match j, hj with | 0, _ => ck_00 | 1, _ => ck_01 | 2, _ => ck_02 | 3, _ => ck_03 | _ + 4, h => absurd h (by omega)⟩
        | 1, _ => ⟨⟨ch_1, cg_1, cb_1, cy_1, cd_1, cs_n, cs_t, cj_1⟩, cv_1, fun j hj => match j, hj with | 0, _ => ck_10 | 1, _ => ck_11 | 2, _ => ck_12 | 3, _ => ck_13 | _ + 4, h => absurd h (by omega)⟩
        | 2, _ => ⟨⟨ch_2, cg_2, cb_2, cy_2, cd_2, cs_n, cs_t, cj_2⟩, cv_2, fun j hj => match j, hj with | 0, _ => ck_20 | 1, _ => ck_21 | 2, _ => ck_22 | 3, _ => ck_23 | _ + 4, h => absurd h (by omega)⟩
        | 3, _ => ⟨⟨ch_3, cg_3, cb_3, cy_3, cd_3, cs_n, cs_t, cj_3⟩, cv_3, fun j hj => match j, hj with | 0, _ => ck_30 | 1, _ => ck_31 | 2, _ => ck_32 | 3, _ => ck_33 | _ + 4, h => absurd h (by omega)⟩
        | _ + 4, h => absurd h (by omega) }
  have F0 := fun_mk (st := s_is_bar) l0 c0 k0
  have b0 := F0.binds (ps := ["bar"]) fun _ _ _ _ _ _ us hl => match us, hl with | [_], _ => rfl
  have F1 := fun_mk (st := s_asked_bar) l1 c1 k1
  have b1 := F1.binds (ps := ["bar"]) fun _ _ _ _ _ _ us hl => match us, hl with | [_], _ => rfl
  have F2 := fun_mk (st := s_bites_of) l2 c2 k2
  have b2 := F2.binds (ps := ["bar"]) fun _ _ _ _ _ _ us hl => match us, hl with | [_], _ => rfl
  have F3 := fun_mk (st := s_behind) l3 c3 k3
  have b3 := F3.binds (ps := ["bar", "row", "column"]) fun _ _ _ _ _ _ us hl => match us, hl with | [_, _, _], _ => rfl
  have F4 := fun_mk (st := s_bitten) l4 c4 k4
  have b4 := F4.binds (ps := ["bar", "row", "column"]) fun _ _ _ _ _ _ us hl => match us, hl with | [_, _, _], _ => rfl
  have F5 := fun_mk (st := s_law_cell_at) l5 c5 k5
  have b5 := F5.binds (ps := ["script", "k"]) fun _ _ _ _ _ _ us hl => match us, hl with | [_, _], _ => rfl
  have F6 := fun_mk (st := s_law_whole) l6 c6 k6
  have b6 := F6.binds (ps := ["found"]) fun _ _ _ _ _ _ us hl => match us, hl with | [_], _ => rfl
  have F7 := fun_mk (st := s_law_is_list) l7 c7 k7
  have b7 := F7.binds (ps := ["found", "due"]) fun _ _ _ _ _ _ us hl => match us, hl with | [_, _], _ => rfl
  have F8 := fun_mk (st := s_law_word_of) l8 c8 k8
  have b8 := F8.binds (ps := ["e"]) fun _ _ _ _ _ _ us hl => match us, hl with | [_], _ => rfl
  have F9 := fun_mk (st := s_law_bar_by) l9 c9 k9
  have b9 := F9.binds (ps := ["cell", "most"]) fun _ _ _ _ _ _ us hl => match us, hl with | [_, _], _ => rfl
  have F10 := fun_mk (st := s_law_behind) l10 c10 k10
  have b10 := F10.binds (ps := ["bar", "row", "column"]) fun _ _ _ _ _ _ us hl => match us, hl with | [_, _, _], _ => rfl
  have F11 := fun_mk (st := s_law_tried) l11 c11 k11
  have b11 := F11.binds (ps := ["bar", "row", "column"]) fun _ _ _ _ _ _ us hl => match us, hl with | [_, _, _], _ => rfl
  have F12 := fun_mk (st := s_law) l12 c12 k12
  refine ⟨PySem.W.fnOf "law" "law" (defArgs s_law) (defBody s_law) (defScope s_law) .none kV12 dc12 pm12 an12 cd12 ct12, fun s v => .of_eq rfl, fun base _ _ => ?_⟩
  have C_is_bar := Cal.mk ⟨_, _, ok_is_bar (P := l.prog) (w := w) (base := base) F0 (m_len := m_len) (g_MOST_ROWS := g_MOST_ROWS) (g_MOST_PIECES := g_MOST_PIECES), PySem.W.mg_of X G a0, k0, b0⟩
  have C_asked_bar := Cal.mk ⟨_, _, ok_asked_bar (P := l.prog) (w := w) (base := base) F1 (C_is_bar := C_is_bar), PySem.W.mg_of X G a1, k1, b1⟩
  have C_bites_of := Cal.mk ⟨_, _, ok_bites_of (P := l.prog) (w := w) (base := base) F2 (m_len := m_len) (m_range := m_range) (m_int := m_int), PySem.W.mg_of X G a2, k2, b2⟩
  have C_behind := Cal.mk ⟨_, _, ok_behind (P := l.prog) (w := w) (base := base) F3 (m_list := m_list) (m_min := m_min), PySem.W.mg_of X G a3, k3, b3⟩
  have C_bitten := Cal.mk ⟨_, _, ok_bitten (P := l.prog) (w := w) (base := base) F4 (C_asked_bar := C_asked_bar) (C_bites_of := C_bites_of) (C_behind := C_behind) (T_kinds := T_kinds), PySem.W.mg_of X G a4, k4, b4⟩
  have C_law_cell_at := Cal.mk ⟨_, _, ok_law_cell_at (P := l.prog) (w := w) (base := base) F5 (m_len := m_len), PySem.W.mg_of X G a5, k5, b5⟩
  have C_law_whole := Cal.mk ⟨_, _, ok_law_whole (P := l.prog) (w := w) (base := base) F6 (m_isinstance := m_isinstance) (m_int := m_int) (m_bool := m_bool), PySem.W.mg_of X G a6, k6, b6⟩
  have C_law_is_list := Cal.mk ⟨_, _, ok_law_is_list (P := l.prog) (w := w) (base := base) F7 (m_len := m_len) (m_range := m_range) (m_isinstance := m_isinstance) (m_list := m_list) (C_law_whole := C_law_whole), PySem.W.mg_of X G a7, k7, b7⟩
  have C_law_word_of := CalE.mk ⟨_, _, ok_law_word_of (P := l.prog) (w := w) (base := base) F8 (m_isinstance := m_isinstance) (m_ValueError := m_ValueError) (T_kinds := T_kinds), PySem.W.mg_of X G a8, k8, b8⟩
  have C_law_bar_by := Cal.mk ⟨_, _, ok_law_bar_by (P := l.prog) (w := w) (base := base) F9 (m_range := m_range) (m_sorted := m_sorted), PySem.W.mg_of X G a9, k9, b9⟩
  have C_law_behind := Cal.mk ⟨_, _, ok_law_behind (P := l.prog) (w := w) (base := base) F10 (m_len := m_len) (m_range := m_range), PySem.W.mg_of X G a10, k10, b10⟩
  have C_law_tried := Cal.mk ⟨_, _, ok_law_tried (P := l.prog) (w := w) (base := base) F11 (T_kinds := T_kinds) (C_bitten := C_bitten) (C_law_word_of := C_law_word_of), PySem.W.mg_of X G a11, k11, b11⟩
  exact (ok_law (P := l.prog) (w := w) (base := base) F12 (m_len := m_len) (m_list := m_list) (m_range := m_range) (C_law_bar_by := C_law_bar_by) (C_law_cell_at := C_law_cell_at) (C_law_tried := C_law_tried) (C_law_behind := C_law_behind) (C_law_is_list := C_law_is_list)).mono (by decide)
end Bb
open PySem PySem.W PyProof.Rows
set_option maxRecDepth 100000 in
set_option maxHeartbeats 0 in
theorem PySem.Challenge.cw_bitebar_k02_bitten_holds : PySem.Challenge.rw_bitebar_k02_bitten.Holds := by
  w_on; o_law; k_head; (case hw => w_witness2)
  k_fill
  refine L2.walk_of (l := PySem.Challenge.rw_bitebar_k02_bitten) (n := 63) (k := 60) (x := "script") (CX := fun _ => L2.CX0) (sp := fun w => Bb.sp_law _) rfl (by decide) rfl ⟨rfl, by decide, by decide⟩ (fun w h Y => PySem.W.kIn_of Y) ?F (fun _ H a ns hl _ hS => ⟨a, ns, rfl, hS, hl, fun _ => rfl⟩) (fun _ _ _ _ _ h => h)
  case F =>
    intro w mg fa h KX G hmg
    refine' Bb.all_mk KX G hmg ?a0 ?l0 ?c0 ?k0 ?a1 ?l1 ?c1 ?k1 ?a2 ?l2 ?c2 ?k2 ?a3 ?l3 ?c3 ?k3 ?a4 ?l4 ?c4 ?k4 ?a5 ?l5 ?c5 ?k5 ?a6 ?l6 ?c6 ?k6 ?a7 ?l7 ?c7 ?k7 ?a8 ?l8 ?c8 ?k8 ?a9 ?l9 ?c9 ?k9 ?a10 ?l10 ?c10 ?k10 ?a11 ?l11 ?c11 ?k11 ?a12 ?l12 ?c12 ?k12 ?z_len ?z_range ?z_int ?z_list ?z_min ?z_isinstance ?z_bool ?z_ValueError ?z_sorted ?y_MOST_ROWS ?y_MOST_PIECES ?ce_a ?cB_b ?cB_d ?cB_t ?cs_n ?cs_t ?ca_0 ?cx_0 ?ck_0 ?cb_0 ?ct_0 ?cm_0 ?cv_0 ?ch_0 ?cg_0 ?cy_0 ?cd_0 ?cj_0 ?ca_1 ?cx_1 ?ck_1 ?cb_1 ?ct_1 ?cm_1 ?cv_1 ?ch_1 ?cg_1 ?cy_1 ?cd_1 ?cj_1 ?ca_2 ?cx_2 ?ck_2 ?cb_2 ?ct_2 ?cm_2 ?cv_2 ?ch_2 ?cg_2 ?cy_2 ?cd_2 ?cj_2 ?ca_3 ?cx_3 ?ck_3 ?cb_3 ?ct_3 ?cm_3 ?cv_3 ?ch_3 ?cg_3 ?cy_3 ?cd_3 ?cj_3 ?ck_00 ?ck_01 ?ck_02 ?ck_03 ?ck_10 ?ck_11 ?ck_12 ?ck_13 ?ck_20 ?ck_21 ?ck_22 ?ck_23 ?ck_30 ?ck_31 ?ck_32 ?ck_33
    (case a0 => k_is); (case l0 => k_is); (case c0 => k_is); (case k0 => k_is); (case a1 => k_is); (case l1 => k_is); (case c1 => k_is); (case k1 => k_is); (case a2 => k_is); (case l2 => k_is); (case c2 => k_is); (case k2 => k_is); (case a3 => k_is); (case l3 => k_is); (case c3 => k_is); (case k3 => k_is); (case a4 => k_is); (case l4 => k_is); (case c4 => k_is); (case k4 => k_is); (case a5 => k_is); (case l5 => k_is); (case c5 => k_is); (case k5 => k_is); (case a6 => k_is); (case l6 => k_is); (case c6 => k_is); (case k6 => k_is); (case a7 => k_is); (case l7 => k_is); (case c7 => k_is); (case k7 => k_is); (case a8 => k_is); (case l8 => k_is); (case c8 => k_is); (case k8 => k_is); (case a9 => k_is); (case l9 => k_is); (case c9 => k_is); (case k9 => k_is); (case a10 => k_is); (case l10 => k_is); (case c10 => k_is); (case k10 => k_is); (case a11 => k_is); (case l11 => k_is); (case c11 => k_is); (case k11 => k_is); (case a12 => k_is); (case l12 => k_is); (case c12 => k_is); (case k12 => k_is); (case z_len => k_is); (case z_range => k_is); (case z_int => k_is); (case z_list => k_is); (case z_min => k_is); (case z_isinstance => k_is); (case z_bool => k_is); (case z_ValueError => k_is); (case z_sorted => k_is); (case y_MOST_ROWS => k_is); (case y_MOST_PIECES => k_is); (case ce_a => k_is); (case cB_b => k_is); (case cB_d => k_is); (case cB_t => k_is); (case cs_n => k_is); (case cs_t => k_is); (case ca_0 => k_is); (case cx_0 => k_exc); (case ck_0 => k_is); (case cb_0 => k_is); (case ct_0 => k_is); (case cm_0 => k_is); (case cv_0 => kit_is); (case ch_0 => k_is); (case cg_0 => k_is); (case cy_0 => k_is); (case cd_0 => k_is); (case cj_0 => k_is); (case ca_1 => k_is); (case cx_1 => k_exc); (case ck_1 => k_is); (case cb_1 => k_is); (case ct_1 => k_is); (case cm_1 => k_is); (case cv_1 => kit_is); (case ch_1 => k_is); (case cg_1 => k_is); (case cy_1 => k_is); (case cd_1 => k_is); (case cj_1 => k_is); (case ca_2 => k_is); (case cx_2 => k_exc); (case ck_2 => k_is); (case cb_2 => k_is); (case ct_2 => k_is); (case cm_2 => k_is); (case cv_2 => kit_is); (case ch_2 => k_is); (case cg_2 => k_is); (case cy_2 => k_is); (case cd_2 => k_is); (case cj_2 => k_is); (case ca_3 => k_is); (case cx_3 => k_exc); (case ck_3 => k_is); (case cb_3 => k_is); (case ct_3 => k_is); (case cm_3 => k_is); (case cv_3 => kit_is); (case ch_3 => k_is); (case cg_3 => k_is); (case cy_3 => k_is); (case cd_3 => k_is); (case cj_3 => k_is); (case ck_00 => kit_is); (case ck_01 => kit_is); (case ck_02 => kit_is); (case ck_03 => kit_is); (case ck_10 => kit_is); (case ck_11 => kit_is); (case ck_12 => kit_is); (case ck_13 => kit_is); (case ck_20 => kit_is); (case ck_21 => kit_is); (case ck_22 => kit_is); (case ck_23 => kit_is); (case ck_30 => kit_is); (case ck_31 => kit_is); (case ck_32 => kit_is); (case ck_33 => kit_is)
#print axioms PySem.Challenge.cw_bitebar_k02_bitten_holds
