import PyProof.Rows.All
import Wide.All
import OpenK.AllK
import Wide.FinOn
import HandS.ForMost
import HandS.SortKw
import HandS.Deep
import HandS.IsInst
import HandS.Codes
import PySem.Challenge.RW_bitebar_k12_whole_played
set_option Elab.async false
set_option linter.all false
set_option maxRecDepth 100000
set_option maxHeartbeats 8000000
namespace Bb
open PySem PySem.Spec PyProof.Rows L2
/-! ### bars, bites -/
/-- a bar of at most m rows of at most m pieces -/
structure IsBar (m : Int) (b : List Int) : Prop where
  ne : 1 ≤ b.length
  le : (b.length : Int) ≤ m
  pw : b.Pairwise (· ≥ ·)
  rg : ∀ x ∈ b, 1 ≤ x ∧ x ≤ m
theorem IsBar.mono {m n : Int} {b : List Int} (h : IsBar m b) (hn : m ≤ n) : IsBar n b :=
  ⟨h.ne, Int.le_trans h.le hn, h.pw, fun x hx => ⟨(h.rg x hx).1, Int.le_trans (h.rg x hx).2 hn⟩⟩
/-- each row from 1 on, none greater than the one ahead -/
def falls (m : Int) : List Int → Bool
  | [] => true
  | x :: xs => decide (1 ≤ x ∧ x ≤ m) && falls x xs
def isBarB (b : List Int) : Bool := decide (1 ≤ b.length ∧ b.length ≤ 5) && falls 5 b
theorem falls_iff {m : Int} {b : List Int} : falls m b = true ↔ b.Pairwise (· ≥ ·) ∧ ∀ x ∈ b, 1 ≤ x ∧ x ≤ m := by
  induction b generalizing m with
  | nil => simp [falls]
  | cons x xs ih =>
    rw [falls, Bool.and_eq_true, decide_eq_true_eq, ih, List.pairwise_cons]
    constructor
    · rintro ⟨⟨h1, h2⟩, h3, h4⟩
      refine ⟨⟨fun y hy => (h4 y hy).2, h3⟩, fun y hy => ?_⟩
      rcases List.mem_cons.mp hy with rfl | hy
      · exact ⟨h1, h2⟩
      · exact ⟨(h4 y hy).1, Int.le_trans (h4 y hy).2 h2⟩
    · rintro ⟨⟨h1, h2⟩, h3⟩
      exact ⟨h3 x (List.mem_cons_self), h2, fun y hy => ⟨(h3 y (List.mem_cons_of_mem _ hy)).1, h1 y hy⟩⟩
theorem isBarB_iff {b : List Int} : isBarB b = true ↔ IsBar 5 b := by
  unfold isBarB
  rw [Bool.and_eq_true, decide_eq_true_eq, falls_iff]
  constructor
  · rintro ⟨⟨h1, h2⟩, h3, h4⟩
    exact ⟨h1, by omega, h3, h4⟩
  · rintro ⟨h1, h2, h3, h4⟩
    exact ⟨⟨h1, by omega⟩, h3, h4⟩
/-- the bites of row r, columns below n -/
def rowL (r : Nat) : Nat → List (Nat × Nat)
  | 0 => []
  | n + 1 => rowL r n ++ if 0 < r + n then [(r, n)] else []
def bitesFrom (r : Nat) : List Int → List (Nat × Nat)
  | [] => []
  | x :: xs => rowL r x.toNat ++ bitesFrom (r + 1) xs
def bitesL (b : List Int) : List (Nat × Nat) := bitesFrom 0 b
theorem bitesFrom_append (r : Nat) : ∀ (xs ys : List Int), bitesFrom r (xs ++ ys) = bitesFrom r xs ++ bitesFrom (r + xs.length) ys := by
  intro xs
  induction xs generalizing r with
  | nil => intro ys; simp [bitesFrom]
  | cons x xs ih =>
    intro ys
    rw [List.cons_append, bitesFrom, bitesFrom, ih, List.append_assoc, List.length_cons, Nat.add_assoc, Nat.add_comm 1 xs.length]
theorem take_more {α : Type} {l : List α} {i : Nat} {x : α} (h : l[i]? = some x) : l.take (i + 1) = l.take i ++ [x] := by
  rw [List.take_add_one, h]; rfl
theorem bitesL_more {b : List Int} {i : Nat} {x : Int} (h : b[i]? = some x) : bitesL (b.take (i + 1)) = bitesL (b.take i) ++ rowL i x.toNat := by
  have hi : i < b.length := (List.getElem?_eq_some_iff.mp h).1
  unfold bitesL
  rw [take_more h, bitesFrom_append, List.length_take, Nat.min_eq_left (Nat.le_of_lt hi), Nat.zero_add]
  simp [bitesFrom]
theorem rowL_len (r n : Nat) : (rowL r n).length ≤ n := by
  induction n with
  | zero => simp [rowL]
  | succ n ih => rw [rowL, List.length_append]; split <;> simp <;> omega
theorem mem_rowL {r n : Nat} {p : Nat × Nat} : p ∈ rowL r n ↔ p.1 = r ∧ p.2 < n ∧ 0 < r + p.2 := by
  induction n with
  | zero => simp [rowL]
  | succ n ih =>
    rw [rowL, List.mem_append, ih]
    obtain ⟨a, c⟩ := p
    constructor
    · rintro (⟨h1, h2, h3⟩ | h)
      · exact ⟨h1, by omega, h3⟩
      · split at h
        · simp at h; obtain ⟨h1, h2⟩ := h; subst h1 h2; exact ⟨rfl, by simp, by assumption⟩
        · cases h
    · rintro ⟨h1, h2, h3⟩
      simp only at h1 h2 h3
      subst h1
      by_cases e : c = n
      · subst e; right; rw [if_pos h3]; simp
      · left; exact ⟨rfl, by simp only; omega, h3⟩
theorem mem_bitesFrom {r : Nat} {b : List Int} {p : Nat × Nat} : p ∈ bitesFrom r b ↔ ∃ i x, b[i]? = some x ∧ p.1 = r + i ∧ (p.2 : Int) < x ∧ 0 < p.1 + p.2 := by
  induction b generalizing r with
  | nil => simp [bitesFrom]
  | cons y ys ih =>
    rw [bitesFrom, List.mem_append, mem_rowL, ih]
    constructor
    · rintro (⟨h1, h2, h3⟩ | ⟨i, x, h1, h2, h3, h4⟩)
      · exact ⟨0, y, rfl, by omega, by omega, by omega⟩
      · exact ⟨i + 1, x, by simpa using h1, by omega, h3, h4⟩
    · rintro ⟨i, x, h1, h2, h3, h4⟩
      cases i with
      | zero =>
        left
        have e : y = x := by simpa using h1
        subst e
        exact ⟨by omega, by omega, by omega⟩
      | succ i =>
        right
        exact ⟨i, x, by simpa using h1, by omega, h3, h4⟩
theorem mem_bitesL {b : List Int} {p : Nat × Nat} : p ∈ bitesL b ↔ ∃ x, b[p.1]? = some x ∧ (p.2 : Int) < x ∧ 0 < p.1 + p.2 := by
  unfold bitesL
  rw [mem_bitesFrom]
  constructor
  · rintro ⟨i, x, h1, h2, h3, h4⟩
    have e : p.1 = i := by omega
    subst e
    exact ⟨x, h1, h3, h4⟩
  · rintro ⟨x, h1, h2, h3⟩
    exact ⟨p.1, x, h1, by omega, h2, h3⟩
theorem bitesFrom_len (r : Nat) : ∀ (b : List Int), (∀ x ∈ b, x ≤ 5) → (bitesFrom r b).length ≤ 5 * b.length := by
  intro b
  induction b generalizing r with
  | nil => intro _; simp [bitesFrom]
  | cons x xs ih =>
    intro h
    have h1 := rowL_len r x.toNat
    have h2 := ih (r + 1) fun y hy => h y (List.mem_cons_of_mem _ hy)
    have h3 := h x List.mem_cons_self
    rw [bitesFrom, List.length_append, List.length_cons]
    omega
theorem bitesL_len {b : List Int} (h : IsBar 5 b) : (bitesL b).length ≤ 25 := by
  have := bitesFrom_len 0 b fun x hx => (h.rg x hx).2
  have := h.le
  unfold bitesL
  omega
theorem bitesL_take_len {b : List Int} (h : IsBar 5 b) (i : Nat) : (bitesL (b.take i)).length ≤ 25 := by
  have := bitesFrom_len 0 (b.take i) fun x hx => (h.rg x (List.mem_of_mem_take hx)).2
  have := h.le
  have : (b.take i).length ≤ b.length := by rw [List.length_take]; omega
  unfold bitesL
  omega
/-- the bar behind a bite -/
def behindL (b : List Int) (r c : Nat) : List Int := b.take r ++ if 0 < c then (b.drop r).map fun x => min x (c : Int) else []
/-! ### heaps -/
theorem sNew {H : Hp} {p : Addr} {o : HO} (h : H p = none) : Same H (upd H p o) := fun b x e => by
  rw [upd_ne (ne_of_none e h)]
  exact e
theorem sThen {H0 H : Hp} {p : Addr} {o : HO} (s : Same H0 H) (h : H p = none) : Same H0 (upd H p o) := s.trans (sNew h)
/-- an object that was not there at the start is written -/
theorem sPut {H0 H : Hp} {p : Addr} {o : HO} (s : Same H0 H) (h : H0 p = none) : Same H0 (upd H p o) := fun b x e => by
  rw [upd_ne (ne_of_none e h)]
  exact s b x e
/-- the tuples stay -/
def KT (H H' : Hp) : Prop := ∀ t xs, H t = some (.tup xs) → H' t = some (.tup xs)
theorem KT.refl (H : Hp) : KT H H := fun _ _ h => h
theorem KT.trans {H H1 H2 : Hp} (a : KT H H1) (b : KT H1 H2) : KT H H2 := fun t xs h => b t xs (a t xs h)
theorem KT.same {H H' : Hp} (s : Same H H') : KT H H' := fun t xs h => s _ _ h
theorem KT.new {H : Hp} {p : Addr} {o : HO} (h : H p = none) : KT H (upd H p o) := KT.same (sNew h)
theorem KT.lst {H : Hp} {p : Addr} {o : HO} {xs : List V} (h : H p = some (.lst xs)) : KT H (upd H p o) := fun t ys e => by
  rw [upd_ne (ne_of e h (by intro q; cases q))]
  exact e
theorem KT.dK {H : Hp} {p : Addr} {o : HO} {xs : List (Key × V)} (h : H p = some (.dK xs)) : KT H (upd H p o) := fun t ys e => by
  rw [upd_ne (ne_of e h (by intro q; cases q))]
  exact e
theorem KT.dT {H : Hp} {p : Addr} {o : HO} {xs : List (List Key × V)} (h : H p = some (.dT xs)) : KT H (upd H p o) := fun t ys e => by
  rw [upd_ne (ne_of e h (by intro q; cases q))]
  exact e
/-- a list of tuples of ints -/
abbrev TL (H : Hp) (xs : List V) (ds : List (List Int)) : Prop := Paired (fun (x : V) (d : List Int) => ∃ t, x = .ref t ∧ H t = some (.tup (d.map V.int))) xs ds
theorem TL.keep {H H' : Hp} (k : KT H H') {xs : List V} {ds : List (List Int)} (h : TL H xs ds) : TL H' xs ds :=
  Paired.mapP h fun _ _ ⟨t, e, z⟩ => ⟨t, e, k _ _ z⟩
theorem TL.nil {H : Hp} : TL H [] [] := Paired.nil
theorem TL.length {H : Hp} {xs : List V} {ds : List (List Int)} (h : TL H xs ds) : xs.length = ds.length := Paired.length h
theorem TL.append {H : Hp} {xs ys : List V} {ds es : List (List Int)} (h : TL H xs ds) (h' : TL H ys es) : TL H (xs ++ ys) (ds ++ es) := by
  induction h with
  | nil => exact h'
  | cons r _ ih => exact Paired.cons r ih
theorem TL.snoc {H : Hp} {xs : List V} {ds : List (List Int)} {t : Addr} {d : List Int} (h : TL H xs ds) (e : H t = some (.tup (d.map V.int))) : TL H (xs ++ [.ref t]) (ds ++ [d]) :=
  h.append (Paired.cons ⟨t, rfl, e⟩ Paired.nil)
theorem TL.get {H : Hp} : ∀ {xs : List V} {ds : List (List Int)} {i : Nat} {d : List Int}, TL H xs ds → ds[i]? = some d → ∃ t, xs[i]? = some (.ref t) ∧ H t = some (.tup (d.map V.int))
  | _, _, i, d, Paired.nil, e => by simp at e
  | _, _, 0, d, Paired.cons ⟨t, h1, h2⟩ _, e => by
    obtain rfl := Option.some.inj e
    exact ⟨t, by rw [h1]; rfl, h2⟩
  | _, _, i + 1, d, Paired.cons _ r, e => by
    obtain ⟨t, h1, h2⟩ := TL.get (i := i) r (by simpa using e)
    exact ⟨t, by simpa using h1, h2⟩
/-- a bite's place -/
def pr (p : Nat × Nat) : List Int := [(p.1 : Int), (p.2 : Int)]
theorem small {n : Nat} (h : n ≤ 100000) : n ≤ sizeLine := Nat.le_trans h (by rw [sizeLine_eq]; decide)
theorem small' {n : Nat} (h : n ≤ 100000) : n < sizeLine := Nat.lt_of_le_of_lt h (by rw [sizeLine_eq]; decide)
theorem map_get {ns : List Int} {i : Nat} {y : V} (h : (ns.map V.int)[i]? = some y) : ∃ z, ns[i]? = some z ∧ y = V.int z := by
  rw [List.getElem?_map] at h
  cases e : ns[i]? with
  | none => rw [e] at h; cases h
  | some z => rw [e] at h; exact ⟨z, rfl, (Option.some.inj h).symm⟩
theorem get_map {ns : List Int} {i : Nat} {z : Int} (h : ns[i]? = some z) : (ns.map V.int)[i]? = some (V.int z) := by
  rw [List.getElem?_map, h]; rfl
theorem at_map {ns : List Int} {i : Nat} {z : Int} (h : ns[i]? = some z) : atI (ns.map V.int) (i : Int) = some (V.int z) := atI_nat (get_map h)
theorem in62 {n : Nat} (h : n ≤ 100000) : -(2 ^ 62) ≤ (n : Int) ∧ (n : Int) < 2 ^ 62 := by
  constructor <;> omega
/-! ### calls -/
structure Cal (P : Program) (w : World) (K : PySem.W.Frag) (mg : Str → Option Value) (base : Heap) (CX : CXT) (k : Nat) (x : Str) (ps : List Str) (sp : Sp) : Prop where
  ex : ∃ (f : Addr) (fd : FuncData), FnOk P w K mg base CX k f fd ps sp ∧ mg x = some (.ref f) ∧ PySem.W.keepIn K (.ref f) = true ∧ Binds K fd ps []
theorem pe_c {X : Cx} {CX : CXT} {k j : Nat} {x : Str} {ps : List Str} {sp : Sp} {E : XK} {e : Expr} {es : List Expr} {t : TA} {p pos : Pos} (C : Cal X.prog X.w X.K X.mg X.base CX k x ps sp) (hr : Room j X.A) (hj : k ≤ j) (hx : Passes CX X E) (ha : PA X (e :: es) t)
    (hg : Gl X x := by rfl) (hdb : (x == ("__debug__" : Str)) = false := by decide) (he : starEach (e :: es) X.env = (false, eval e X.env) :: starEach es X.env := by rfl) (hpl : (backTo pos (starEach es X.env)).any (·.1) = false := by rfl) :
    PE X (.Call (.Name x p) (e :: es) [] pos) (tCall sp [] E t) := by
  obtain ⟨f, fd, F, gm, kp, bd⟩ := C.ex
  exact pe_call F (hr.mono hj) hg gm kp bd .nil hx ha hdb he hpl
/-- a comprehension without a test -/
theorem yesT {σ : L2.St} {H : Hp} {A B : Hp → Prop} (h : A H) : tYes σ H (fun b H' => if b = true then A H' else B H') := by
  show if true = true then A H else B H
  rw [if_pos rfl]
  exact h
/-! ### tests whose answer is known -/
theorem dT_ {p : Prop} [Decidable p] {A B : Prop} (h : p) (x : A) : if decide p = true then A else B := by
  rw [if_pos (decide_eq_true h)]
  exact x
theorem dF_ {p : Prop} [Decidable p] {A B : Prop} (h : ¬ p) (x : B) : if decide p = true then A else B := by
  rw [if_neg (by rw [decide_eq_false h]; exact Bool.false_ne_true)]
  exact x
theorem nT_ {p : Prop} [Decidable p] {A B : Prop} (h : ¬ p) (x : A) : if (!decide p) = true then A else B := by
  rw [if_pos (by rw [decide_eq_false h]; rfl)]
  exact x
theorem nF_ {p : Prop} [Decidable p] {A B : Prop} (h : p) (x : B) : if (!decide p) = true then A else B := by
  rw [if_neg (by rw [decide_eq_true h]; exact Bool.false_ne_true)]
  exact x
/-- ways by a test -/
theorem d2_ {p : Prop} [Decidable p] {A B : Prop} (x : p → A) (y : ¬ p → B) : if decide p = true then A else B := by
  by_cases h : p
  · exact dT_ h (x h)
  · exact dF_ h (y h)
theorem n2_ {p : Prop} [Decidable p] {A B : Prop} (x : ¬ p → A) (y : p → B) : if (!decide p) = true then A else B := by
  by_cases h : p
  · exact nF_ h (y h)
  · exact nT_ h (x h)
theorem int_eq {i j : Int} (h : V.int i = V.int j) : i = j := V.int.inj h
/-! ### data: lists and tuples of ints, lists of these -/
abbrev dI (ns : List Int) : List PyData := ns.map PyData.int
abbrev dT (ds : List (List Int)) : List PyData := ds.map fun d => PyData.tuple (dI d)
abbrev dL (ds : List (List Int)) : List PyData := ds.map fun d => PyData.list (dI d)
theorem dp_ints {K : PySem.W.Frag} {H : Hp} : ∀ ns : List Int, DpAll K H (ns.map V.int) (dI ns)
  | [] => .nil
  | x :: xs => .cons (.int x) (dp_ints xs)
theorem dp_tups {K : PySem.W.Frag} {H : Hp} : ∀ {xs : List V} {ds : List (List Int)}, TL H xs ds → DpAll K H xs (dT ds)
  | _, _, Paired.nil => .nil
  | _, _, Paired.cons ⟨t, e, h⟩ r => by
    subst e
    exact .cons (.tup (SqT.of h) (dp_ints _)) (dp_tups r)
theorem lay_ints : ∀ ns : List Int, PyData.canLayAll0 (dI ns) = true ∧ PyData.depthAll (dI ns) = 0
  | [] => ⟨by simp [PyData.canLayAll0], by simp [PyData.depthAll]⟩
  | x :: xs => by
    obtain ⟨h1, h2⟩ := lay_ints xs
    refine ⟨?_, ?_⟩
    · rw [dI, List.map_cons, PyData.canLayAll0, h1, PyData.canLay0]; rfl
    · rw [dI, List.map_cons, PyData.depthAll, h2, PyData.depth]; rfl
theorem shaped_list (ns : List Int) : SeqAt.shaped (.list (dI ns)) = true := by
  obtain ⟨h1, h2⟩ := lay_ints ns
  unfold SeqAt.shaped
  rw [PyData.canLay0, h1, PyData.depth, h2]
  rfl
theorem shaped_tup (ns : List Int) : SeqAt.shaped (.tuple (dI ns)) = true := by
  obtain ⟨h1, h2⟩ := lay_ints ns
  unfold SeqAt.shaped
  rw [PyData.canLay0, h1, PyData.depth, h2]
  rfl
theorem lay_tups : ∀ ds : List (List Int), PyData.canLayAll0 (dT ds) = true ∧ PyData.depthAll (dT ds) ≤ 1
  | [] => ⟨by simp [PyData.canLayAll0], by simp [PyData.depthAll]⟩
  | x :: xs => by
    obtain ⟨h1, h2⟩ := lay_tups xs
    obtain ⟨h3, h4⟩ := lay_ints x
    refine ⟨?_, ?_⟩
    · rw [dT, List.map_cons, PyData.canLayAll0, h1, PyData.canLay0, h3]; rfl
    · rw [dT, List.map_cons, PyData.depthAll, PyData.depth, h4]
      exact Nat.max_le.mpr ⟨Nat.le_refl _, h2⟩
theorem lay_lsts : ∀ ds : List (List Int), PyData.canLayAll0 (dL ds) = true ∧ PyData.depthAll (dL ds) ≤ 1
  | [] => ⟨by simp [PyData.canLayAll0], by simp [PyData.depthAll]⟩
  | x :: xs => by
    obtain ⟨h1, h2⟩ := lay_lsts xs
    obtain ⟨h3, h4⟩ := lay_ints x
    refine ⟨?_, ?_⟩
    · rw [dL, List.map_cons, PyData.canLayAll0, h1, PyData.canLay0, h3]; rfl
    · rw [dL, List.map_cons, PyData.depthAll, PyData.depth, h4]
      exact Nat.max_le.mpr ⟨Nat.le_refl _, h2⟩
theorem shaped_tups (ds : List (List Int)) : SeqAt.shaped (.list (dT ds)) = true := by
  obtain ⟨h1, h2⟩ := lay_tups ds
  unfold SeqAt.shaped
  rw [PyData.canLay0, h1, PyData.depth, Bool.true_and]
  exact decide_eq_true (by omega)
theorem shaped_lsts (ds : List (List Int)) : SeqAt.shaped (.list (dL ds)) = true := by
  obtain ⟨h1, h2⟩ := lay_lsts ds
  unfold SeqAt.shaped
  rw [PyData.canLay0, h1, PyData.depth, Bool.true_and]
  exact decide_eq_true (by omega)
theorem eqv_ints : ∀ ns ms : List Int, PyData.eqvAll (dI ns) (dI ms) = decide (ns = ms)
  | [], [] => by simp [dI, PyData.eqvAll]
  | [], _ :: _ => by simp [dI, PyData.eqvAll]
  | _ :: _, [] => by simp [dI, PyData.eqvAll]
  | x :: xs, y :: ys => by
    show PyData.eqvAll (PyData.int x :: dI xs) (PyData.int y :: dI ys) = _
    rw [PyData.eqvAll, eqv_ints xs ys, PyData.eqv, Bool.beq_eq_decide_eq]
    by_cases e : x = y
    · subst e; by_cases e2 : xs = ys <;> simp [e2]
    · simp [e]
theorem eqv_list (ns ms : List Int) : PyData.eqv (.list (dI ns)) (.list (dI ms)) = decide (ns = ms) := by rw [PyData.eqv, eqv_ints]
theorem eqv_tup (ns ms : List Int) : PyData.eqv (.tuple (dI ns)) (.tuple (dI ms)) = decide (ns = ms) := by rw [PyData.eqv, eqv_ints]
theorem eqv_lists : ∀ ns ms : List (List Int), PyData.eqvAll (dL ns) (dL ms) = decide (ns = ms)
  | [], [] => by simp [dL, PyData.eqvAll]
  | [], _ :: _ => by simp [dL, PyData.eqvAll]
  | _ :: _, [] => by simp [dL, PyData.eqvAll]
  | x :: xs, y :: ys => by
    show PyData.eqvAll (PyData.list (dI x) :: dL xs) (PyData.list (dI y) :: dL ys) = _
    rw [PyData.eqvAll, eqv_lists xs ys, eqv_list]
    by_cases e : x = y
    · subst e; by_cases e2 : xs = ys <;> simp [e2]
    · simp [e]
theorem dp_list {K : PySem.W.Frag} {H : Hp} {a : Addr} {ns : List Int} (h : SqL K H a (ns.map V.int)) : Dp K H (.ref a) (.list (dI ns)) := .lst h (dp_ints ns)
theorem dp_tup {K : PySem.W.Frag} {H : Hp} {a : Addr} {ns : List Int} (h : H a = some (.tup (ns.map V.int))) : Dp K H (.ref a) (.tuple (dI ns)) := .tup (SqT.of h) (dp_ints ns)
theorem dp_tl {K : PySem.W.Frag} {H : Hp} {a : Addr} {xs : List V} {ds : List (List Int)} (h : SqL K H a xs) (t : TL H xs ds) : Dp K H (.ref a) (.list (dT ds)) := .lst h (dp_tups t)
/-! ### the rules that speak of the written part, with its name -/
section
variable {X : Cx} {K : PySem.W.Frag}
theorem lenK (hK : X.K = K := by rfl) : CallR X (.builtin "len") (fun xs H Q => ∃ p ys, xs = [.ref p] ∧ (SqL K H p ys ∨ SqT K H p ys) ∧ Q (.int ys.length) H) := by subst hK; exact call_len_seq
theorem ixK (hK : X.K = K := by rfl) : IxR X (rIxL K) := by subst hK; exact ix_list
theorem ixTK (hK : X.K = K := by rfl) : IxR X (rIxT K) := by subst hK; exact ix_tup
theorem slK (hK : X.K = K := by rfl) : SlR X (rSlL K) := by subst hK; exact sl_list
theorem isiK (hK : X.K = K := by rfl) : CallR X (.builtin "isinstance") (rIsi K) := by subst hK; exact call_isi
theorem eqDK (hu : X.A.units + 64 < cLine) (hK : X.K = K := by rfl) : OpR X (compareOp .Eq) (rEqD K) := by subst hK; exact op_eqD hu
theorem neDK (hu : X.A.units + 64 < cLine) (hK : X.K = K := by rfl) : OpR X (compareOp .NotEq) (rNeD K) := by subst hK; exact op_neD hu
theorem inDK (hu : X.A.units + 65 < cLine) (hK : X.K = K := by rfl) : OpR X (compareOp .In) (rInD K) := by subst hK; exact op_inD hu
theorem notInDK (hu : X.A.units + 65 < cLine) (hK : X.K = K := by rfl) : OpR X (compareOp .NotIn) (rNotInD K) := by subst hK; exact op_notInD hu
theorem inSK (hK : X.K = K := by rfl) : OpR X (compareOp .In) (rIn K false) := by subst hK; exact op_in_seq
theorem notInSK (hK : X.K = K := by rfl) : OpR X (compareOp .NotIn) (rIn K true) := by subst hK; exact op_notIn_seq
theorem listK (hK : X.K = K := by rfl) : CallR X (.type "list") (fun xs H Q => ∃ p ys, xs = [.ref p] ∧ (SqL K H p ys ∨ SqT K H p ys) ∧ ∀ l, H l = none → Q (.ref l) (upd H l (.lst ys))) := by subst hK; exact call_list_of
theorem tupleK (hK : X.K = K := by rfl) : CallR X (.type "tuple") (fun xs H Q => ∃ p ys, xs = [.ref p] ∧ ((SqL K H p ys ∧ ∀ l, H l = none → Q (.ref l) (upd H l (.tup ys))) ∨ (SqT K H p ys ∧ Q (.ref p) H))) := by subst hK; exact call_tuple_of
theorem maxK (hc : X.calm = true) (hK : X.K = K := by rfl) : CallR X (.builtin "max") (rMax K) := by subst hK; exact cr_max hc
theorem indexK (hK : X.K = K := by rfl) : MtR X "list.index" (rIndex K) := by subst hK; exact mt_index
theorem sortedRevK (hK : X.K = K := by rfl) : CallRK X (.builtin "sorted") [Str.ofString "reverse"] (rSortedKw K true [.bl true]) := by subst hK; exact cr_sortedRev (b := true)
theorem pi_listK {tg l : Expr} {tl : TE} (hl : PE X l tl) (hK : X.K = K := by rfl) : PI X tg l (iList K tl) := by subst hK; exact pi_list hl
theorem pi_tupK {tg l : Expr} {tl : TE} (hl : PE X l tl) (hK : X.K = K := by rfl) : PI X tg l (iTup K tl) := by subst hK; exact pi_tup hl
theorem pi_enumK {e : Expr} {ta : TA} {p pos tpos : Pos} {elts : List Expr} {kk : Nat} (hg : Gl X "enumerate") (hm : X.mg "enumerate" = none) (ha : PA X [e] ta) (hs : starEach [e] X.env = [(false, eval e X.env)] := by rfl) (hK : X.K = K := by rfl) :
    PI X (.Tuple elts kk tpos) (.Call (.Name "enumerate" p) [e] [] pos) (iEnum K ta) := by subst hK; exact pi_enum hg hm ha hs
theorem pg_tupK {es : List Expr} {k : Nat} {t : TGs} {n : Nat} {pos : Pos} (hc : X.calm = true) (h : PGs X es t) (hn : (assignEach es X.env).length = n := by rfl) (hst : (assignEach es X.env).findIdx? (·.1) = none := by rfl) (hK : X.K = K := by rfl) :
    PG X (.Tuple es k pos) (gTup K n t) := by subst hK; exact pg_tup hc h hn hst
theorem pe_bmK {o e : Expr} {es : List Expr} {to : TE} {t : TA} {name : Str} {apos cpos : Pos} {T id : String} {r : V → List V → Hp → VK → Prop} (pa : PlainAttrs T) (slot : Slot T name id) (hty : typeOf (.builtin id) = pure (.type "method_descriptor")) (hm : MtR X id r) (ho : PE X o to) (ha : PA X (e :: es) t)
    (hbase : attributeBase o name X.env (eval o X.env) = eval o X.env := by rfl)
    (hfew : ((backTo cpos (starEach (e :: es) X.env)).all (fun x => !x.1) && (backToKw cpos (keywordEach [] X.env)).all (fun x => x.1.isSome)
      && decide ((e :: es).length + ([] : List Keyword).length + (if ([] : List Keyword).isEmpty then 0 else 1) < 30)) = true := by rfl)
    (hline : (apos.endLine == cpos.line) = true := by rfl) (hs : starEach (e :: es) X.env = (false, eval e X.env) :: starEach es X.env := by rfl) (hplain : (backTo cpos (starEach es X.env)).any (·.1) = false := by rfl) (hK : X.K = K := by rfl) : PE X (.Call (.Attribute o name apos) (e :: es) [] cpos) (tBM K T r to t) := by subst hK; exact pe_bm pa slot hty hm ho ha hbase hfew hline hs hplain
end
theorem hu65 {k : Nat} {A : Around} (hr : Room k A) : A.units + 65 < cLine := by
  have := hr.un
  omega
/-- the law's promise -/
def sp_law (K : PySem.W.Frag) : Sp := fun vs H Q _ => ∃ (a : Addr) (ns : List Int), vs = [.ref a] ∧ SqL K H a (ns.map V.int) ∧ ns.length ≤ 63 ∧ ∀ H', Q (.bl true) H'
/-! ### all bars -/
def allFrom : Nat → Nat → List (List Int)
  | 0, _ => [[]]
  | n + 1, m => [] :: (List.range m).flatMap fun i => (allFrom n (i + 1)).map fun t => ((i + 1 : Nat) : Int) :: t
theorem mem_allFrom : ∀ (n : Nat) (m : Nat) (b : List Int), falls (m : Int) b = true → b.length ≤ n → b ∈ allFrom n m
  | 0, m, b, _, h => by
    have : b = [] := List.length_eq_zero_iff.mp (by omega)
    subst this
    simp [allFrom]
  | n + 1, m, [], _, _ => by simp [allFrom]
  | n + 1, m, x :: xs, hf, hl => by
    rw [falls, Bool.and_eq_true, decide_eq_true_eq] at hf
    obtain ⟨⟨h1, h2⟩, h3⟩ := hf
    have e : x = (((x - 1).toNat + 1 : Nat) : Int) := by omega
    rw [allFrom]
    refine List.mem_cons_of_mem _ (List.mem_flatMap.mpr ⟨(x - 1).toNat, List.mem_range.mpr (by omega), List.mem_map.mpr ⟨xs, ?_, by rw [← e]⟩⟩)
    refine mem_allFrom n _ xs (by rw [← e]; exact h3) ?_
    rw [List.length_cons] at hl
    omega
/-- what a table of all bars shows -/
theorem all_bars {P : List Int → Bool} (h : (allFrom 5 5).all (fun b => b.isEmpty || P b) = true) {b : List Int} (hb : IsBar 5 b) : P b = true := by
  have h1 := isBarB_iff.mpr hb
  unfold isBarB at h1
  rw [Bool.and_eq_true, decide_eq_true_eq] at h1
  have h2 := List.all_eq_true.mp h b (mem_allFrom 5 5 b h1.2 h1.1.2)
  have h3 : b.isEmpty = false := by
    cases b with
    | nil => exact absurd h1.1.1 (by decide)
    | cons x xs => rfl
  rw [h3, Bool.false_or] at h2
  exact h2
/-! ### worths -/
def mexFrom (l : List Nat) : Nat → Nat → Nat
  | 0, m => m
  | k + 1, m => if m ∈ l then mexFrom l k (m + 1) else m
/-- the least number that is not in l -/
def mex (l : List Nat) : Nat := mexFrom l (l.sum + 1) 0
theorem le_sum_of_mem : ∀ {l : List Nat} {x : Nat}, x ∈ l → x ≤ l.sum
  | [], x, h => nomatch h
  | a :: l, x, h => by
    rw [List.sum_cons]
    rcases List.mem_cons.mp h with rfl | h
    · omega
    · have := le_sum_of_mem h
      omega
theorem mexFrom_spec (l : List Nat) : ∀ (k m : Nat), l.sum < m + k → (∀ j, j < m → j ∈ l) → mexFrom l k m ∉ l ∧ ∀ j, j < mexFrom l k m → j ∈ l
  | 0, m, h, hb => ⟨fun hm => by have := le_sum_of_mem (show m ∈ l from hm); omega, hb⟩
  | k + 1, m, h, hb => by
    rw [mexFrom]
    by_cases e : m ∈ l
    · rw [if_pos e]
      refine mexFrom_spec l k (m + 1) (by omega) fun j hj => ?_
      rcases Nat.lt_succ_iff_lt_or_eq.mp hj with hj | rfl
      · exact hb j hj
      · exact e
    · rw [if_neg e]
      exact ⟨e, hb⟩
theorem mex_spec (l : List Nat) : mex l ∉ l ∧ ∀ j, j < mex l → j ∈ l := mexFrom_spec l _ 0 (by omega) fun j hj => absurd hj (Nat.not_lt_zero j)
theorem mex_is {l : List Nat} {m : Nat} (h1 : m ∉ l) (h2 : ∀ j, j < m → j ∈ l) : mex l = m := by
  obtain ⟨k1, k2⟩ := mex_spec l
  rcases Nat.lt_trichotomy (mex l) m with h | h | h
  · exact absurd (h2 _ h) k1
  · exact h
  · exact absurd (k2 _ h) h1
theorem mex_congr {l l' : List Nat} (h : ∀ x, x ∈ l ↔ x ∈ l') : mex l = mex l' := mex_is (fun q => (mex_spec l').1 ((h _).mp q)) fun j hj => (h j).mpr ((mex_spec l').2 j hj)
/-- how many pieces a bar has -/
def pieces (b : List Int) : Nat := (b.map Int.toNat).sum
theorem pieces_append (a b : List Int) : pieces (a ++ b) = pieces a + pieces b := by
  unfold pieces
  rw [List.map_append, List.sum_append]
theorem pieces_cut (c : Nat) : ∀ b : List Int, pieces (b.map fun x => min x (c : Int)) ≤ pieces b
  | [] => Nat.le_refl _
  | x :: xs => by
    have := pieces_cut c xs
    unfold pieces at *
    rw [List.map_cons, List.map_cons, List.sum_cons, List.map_cons, List.sum_cons]
    omega
theorem pieces_less {b : List Int} {p : Nat × Nat} (h : p ∈ bitesL b) : pieces (behindL b p.1 p.2) < pieces b := by
  obtain ⟨x, hx, hc, _⟩ := mem_bitesL.mp h
  obtain ⟨hi, e⟩ := List.getElem?_eq_some_iff.mp hx
  have hd : b.drop p.1 = x :: b.drop (p.1 + 1) := by rw [List.drop_eq_getElem_cons hi, e]
  have hb : pieces b = pieces (b.take p.1) + pieces (b.drop p.1) := by rw [← pieces_append, List.take_append_drop]
  unfold behindL
  rw [pieces_append, hb]
  have hcut := pieces_cut p.2 (b.drop (p.1 + 1))
  have hl : pieces (if 0 < p.2 then (b.drop p.1).map fun x => min x (p.2 : Int) else []) < pieces (b.drop p.1) := by
    rw [hd]
    by_cases z : 0 < p.2
    · rw [if_pos z]
      unfold pieces at *
      rw [List.map_cons, List.map_cons, List.sum_cons, List.map_cons, List.sum_cons]
      omega
    · rw [if_neg z]
      unfold pieces
      rw [List.map_cons, List.sum_cons, List.map_nil, List.sum_nil]
      omega
  omega
theorem isBar_behind {m : Int} {b : List Int} (hb : IsBar m b) {p : Nat × Nat} (h : p ∈ bitesL b) : IsBar m (behindL b p.1 p.2) := by
  obtain ⟨x, hx, hc, hp⟩ := mem_bitesL.mp h
  obtain ⟨hi, e⟩ := List.getElem?_eq_some_iff.mp hx
  have hsub : ∀ y ∈ b.drop p.1, y ∈ b := fun y hy => List.mem_of_mem_drop hy
  have pw := hb.pw
  have ln : (behindL b p.1 p.2).length ≤ b.length ∧ 1 ≤ (behindL b p.1 p.2).length := by
    unfold behindL
    rw [List.length_append, List.length_take]
    by_cases z : 0 < p.2
    · rw [if_pos z, List.length_map, List.length_drop]
      omega
    · rw [if_neg z, List.length_nil]
      omega
  refine ⟨ln.2, Int.le_trans (Int.ofNat_le.mpr ln.1) hb.le, ?_, fun y hy => ?_⟩
  · unfold behindL
    refine List.pairwise_append.mpr ⟨pw.sublist (List.take_sublist _ _), ?_, ?_⟩
    · by_cases z : 0 < p.2
      · rw [if_pos z]
        refine List.pairwise_map.mpr ((pw.sublist (List.drop_sublist _ _)).imp fun {a c} h => ?_)
        show min a (p.2 : Int) ≥ min c (p.2 : Int)
        have h : a ≥ c := h
        omega
      · rw [if_neg z]
        exact List.Pairwise.nil
    · intro a ha c hc'
      by_cases z : 0 < p.2
      · rw [if_pos z] at hc'
        obtain ⟨y, hy, rfl⟩ := List.mem_map.mp hc'
        have := List.pairwise_append.mp (show (b.take p.1 ++ b.drop p.1).Pairwise (· ≥ ·) by rw [List.take_append_drop]; exact pw)
        have := this.2.2 a ha y hy
        show a ≥ min y (p.2 : Int)
        omega
      · rw [if_neg z] at hc'
        cases hc'
  · unfold behindL at hy
    rcases List.mem_append.mp hy with hy | hy
    · exact hb.rg y (List.mem_of_mem_take hy)
    · by_cases z : 0 < p.2
      · rw [if_pos z] at hy
        obtain ⟨u, hu, rfl⟩ := List.mem_map.mp hy
        have := hb.rg u (hsub u hu)
        omega
      · rw [if_neg z] at hy
        cases hy
theorem pieces_pos {m : Int} {b : List Int} (hb : IsBar m b) : 1 ≤ pieces b := by
  cases b with
  | nil => exact absurd hb.ne (by decide)
  | cons x xs =>
    have := hb.rg x List.mem_cons_self
    unfold pieces
    rw [List.map_cons, List.sum_cons]
    omega
theorem pieces_le : ∀ {b : List Int}, (∀ x ∈ b, x ≤ 5) → pieces b ≤ 5 * b.length
  | [], _ => Nat.zero_le _
  | x :: xs, h => by
    have h1 := pieces_le (b := xs) fun y hy => h y (List.mem_cons_of_mem _ hy)
    have h2 := h x List.mem_cons_self
    unfold pieces at *
    rw [List.map_cons, List.sum_cons, List.length_cons]
    omega
theorem pieces_25 {b : List Int} (hb : IsBar 5 b) : pieces b ≤ 25 := by
  have := pieces_le fun x hx => (hb.rg x hx).2
  have := hb.le
  omega
/-- a bar's worth, n turns deep -/
def wF : Nat → List Int → Nat
  | 0, _ => 0
  | n + 1, b => mex ((bitesL b).map fun p => wF n (behindL b p.1 p.2))
def worthL (b : List Int) : Nat := wF (pieces b) b
theorem bitesFrom_nil (r : Nat) : ∀ {b : List Int}, pieces b = 0 → bitesFrom r b = []
  | [], _ => rfl
  | x :: xs, h => by
    unfold pieces at h
    rw [List.map_cons, List.sum_cons] at h
    have h0 : x.toNat = 0 := by omega
    rw [bitesFrom, h0, rowL, List.nil_append]
    refine bitesFrom_nil (r + 1) ?_
    unfold pieces
    omega
theorem bitesL_nil {b : List Int} (h : pieces b = 0) : bitesL b = [] := bitesFrom_nil 0 h
theorem wF_any : ∀ (n : Nat) (b : List Int), pieces b ≤ n → wF n b = worthL b
  | 0, b, h => by
    have e : pieces b = 0 := by omega
    unfold worthL
    rw [e]
  | n + 1, b, h => by
    by_cases e : pieces b = 0
    · have h0 : worthL b = 0 := by
        unfold worthL
        rw [e]
        rfl
      rw [h0, wF, bitesL_nil e]
      rfl
    · obtain ⟨k, hk⟩ : ∃ k, pieces b = k + 1 := ⟨pieces b - 1, by omega⟩
      unfold worthL
      rw [hk, wF, wF]
      refine congrArg mex (List.map_congr_left fun p hp => ?_)
      have := pieces_less hp
      rw [wF_any n _ (by omega)]
      exact (wF_any k _ (by omega)).symm
  termination_by n => n
/-- POINT 6 -/
theorem worthL_eq (b : List Int) : worthL b = mex ((bitesL b).map fun p => worthL (behindL b p.1 p.2)) := by
  have h := wF_any (pieces b + 1) b (by omega)
  rw [← h, wF]
  refine congrArg mex (List.map_congr_left fun p hp => ?_)
  have := pieces_less hp
  exact wF_any _ _ (by omega)
theorem behindL_snoc (l : List Int) (x : Int) (r c : Nat) : behindL (l ++ [x]) r c = behindL l r c ++ if l.length < r then [x] else if 0 < c then [min x (c : Int)] else [] := by
  unfold behindL
  by_cases h : l.length < r
  · rw [if_pos h, List.take_of_length_le (by rw [List.length_append]; exact h), List.drop_eq_nil_of_le (by rw [List.length_append]; exact h), List.take_of_length_le (Nat.le_of_lt h), List.drop_eq_nil_of_le (Nat.le_of_lt h)]
    split <;> simp
  · have h' : r ≤ l.length := by omega
    rw [if_neg h, List.take_append_of_le_length h', List.drop_append_of_le_length h']
    split <;> simp
/-! ### lists without doubles -/
theorem length_le_of_sub {α : Type} [DecidableEq α] : ∀ {l m : List α}, l.Nodup → (∀ x ∈ l, x ∈ m) → l.length ≤ m.length
  | [], _, _, _ => Nat.zero_le _
  | x :: l, m, hn, hs => by
    obtain ⟨h1, h2⟩ := List.nodup_cons.mp hn
    have hx := hs x List.mem_cons_self
    have := length_le_of_sub (l := l) (m := m.erase x) h2 fun y hy => (List.mem_erase_of_ne (fun e => h1 (by rw [← e]; exact hy))).mpr (hs y (List.mem_cons_of_mem _ hy))
    have e := List.length_erase_of_mem hx
    have : 1 ≤ m.length := by
      cases m with
      | nil => cases hx
      | cons _ _ => simp
    rw [List.length_cons]
    omega
/-! ### the dict of the worths that are known -/
def keyOf (b : List Int) : List Key := b.map Sum.inl
theorem keyOf_kV (b : List Int) : (keyOf b).map kV = b.map V.int := by
  unfold keyOf
  rw [List.map_map]
  all_goals rfl
theorem keyOf_inj : ∀ {a b : List Int}, keyOf a = keyOf b → a = b
  | [], [], _ => rfl
  | [], _ :: _, h => by cases h
  | _ :: _, [], h => by cases h
  | x :: xs, y :: ys, h => by
    have h : (Sum.inl x : Key) :: keyOf xs = Sum.inl y :: keyOf ys := h
    injection h with h1 h2
    rw [Sum.inl.inj h1, keyOf_inj h2]
structure Known (kvs : List (List Key × V)) : Prop where
  nd : (kvs.map (·.1)).Nodup
  is : ∀ p ∈ kvs, ∃ b : List Int, p.1 = keyOf b ∧ IsBar 5 b ∧ p.2 = .int (worthL b : Nat)
theorem Known.nil : Known [] := ⟨List.nodup_nil, fun _ h => nomatch h⟩
theorem mem_all {b : List Int} (h : IsBar 5 b) : b ∈ allFrom 5 5 := by
  have h1 := isBarB_iff.mpr h
  unfold isBarB at h1
  rw [Bool.and_eq_true, decide_eq_true_eq] at h1
  exact mem_allFrom 5 5 b h1.2 h1.1.2
theorem all_len : (allFrom 5 5).length = 252 := by decide +kernel
theorem Known.len {kvs : List (List Key × V)} (h : Known kvs) : kvs.length ≤ 252 := by
  have q := length_le_of_sub (m := (allFrom 5 5).map keyOf) h.nd fun x hx => by
    obtain ⟨p, hp, rfl⟩ := List.mem_map.mp hx
    obtain ⟨b, e, hb, _⟩ := h.is p hp
    rw [e]
    exact List.mem_map_of_mem (mem_all hb)
  rw [List.length_map, List.length_map, all_len] at q
  exact q
theorem valV_mem {κ : Type} [DecidableEq κ] {kvs : List (κ × V)} {k : κ} {v : V} (h : valV kvs k = some v) : (k, v) ∈ kvs := by
  unfold valV at h
  cases e : kvs.find? fun kv => decide (kv.1 = k) with
  | none =>
    rw [e] at h
    cases h
  | some p =>
    rw [e] at h
    have h1 : p.1 = k := of_decide_eq_true (List.find?_some (p := fun kv : κ × V => decide (kv.1 = k)) e)
    have h2 : p.2 = v := Option.some.inj h
    rw [← h1, ← h2]
    exact List.mem_of_find?_eq_some e
theorem Known.get {kvs : List (List Key × V)} (h : Known kvs) {b : List Int} {v : V} (e : valV kvs (keyOf b) = some v) : v = .int (worthL b : Nat) := by
  obtain ⟨c, h1, _, h2⟩ := h.is _ (valV_mem e)
  have h1 : keyOf b = keyOf c := h1
  have h2 : v = .int (worthL c : Nat) := h2
  rw [keyOf_inj h1]
  exact h2
theorem Known.put {kvs : List (List Key × V)} (h : Known kvs) {b : List Int} (hb : IsBar 5 b) (e : valV kvs (keyOf b) = none) : Known (putK kvs (keyOf b) (.int (worthL b : Nat))) := by
  refine ⟨nd_putK _ h.nd e, fun p hp => ?_⟩
  rw [putK_new _ e] at hp
  rcases List.mem_append.mp hp with hp | hp
  · exact h.is p hp
  · have := List.mem_singleton.mp hp
    subst this
    exact ⟨b, rfl, hb, rfl⟩
theorem Known.again {kvs : List (List Key × V)} (h : Known kvs) {b : List Int} {v : V} (e : valV kvs (keyOf b) = some v) : Known (putK kvs (keyOf b) (.int (worthL b : Nat))) := by
  have hm : (kvs.any fun kv => decide (kv.1 = keyOf b)) = true := by
    rw [valV_any, e]
    rfl
  unfold putK
  rw [if_pos hm]
  have e1 : (kvs.map fun kv => if kv.1 = keyOf b then (kv.1, V.int (worthL b : Nat)) else kv) = kvs := by
    refine (List.map_congr_left fun p hp => ?_).trans (List.map_id _)
    by_cases z : p.1 = keyOf b
    · rw [if_pos z]
      obtain ⟨c, h1, _, h2⟩ := h.is p hp
      have := keyOf_inj (z.symm.trans h1)
      subst this
      rw [← h2]
      all_goals rfl
    · rw [if_neg z]
      all_goals rfl
  rw [e1]
  exact h
/-! ### the dict of the worths that are seen -/
structure Seen (kvs : List (Key × V)) (l : List Nat) : Prop where
  len : kvs.length ≤ l.length
  is : ∀ m : Nat, (valV kvs (.inl (m : Int))).isSome = decide (m ∈ l)
theorem Seen.nil : Seen [] [] := ⟨Nat.le_refl _, fun m => by rw [valV_nil]; rfl⟩
theorem putK_len {κ : Type} [DecidableEq κ] (kvs : List (κ × V)) (k : κ) (v : V) : (putK kvs k v).length ≤ kvs.length + 1 := by
  unfold putK
  split
  · rw [List.length_map]; omega
  · rw [List.length_append]; exact Nat.le_refl _
theorem Seen.put {kvs : List (Key × V)} {l : List Nat} (h : Seen kvs l) (x : Nat) (v : V) : Seen (putK kvs (.inl (x : Int)) v) (l ++ [x]) := by
  refine ⟨?_, fun m => ?_⟩
  · have := putK_len kvs (.inl (x : Int)) v
    have := h.len
    rw [List.length_append, List.length_singleton]
    omega
  · rw [valV_put]
    by_cases e : m = x
    · subst e
      rw [if_pos rfl]
      simp
    · rw [if_neg (fun z => e (by have := Sum.inl.inj z; omega)), h.is m]
      simp [e]
/-! ### all but what stands at d is kept -/
def But (d : Addr) (H H' : Hp) : Prop := ∀ b o, b ≠ d → H b = some o → H' b = some o
theorem But.same {d : Addr} {H H' : Hp} (s : Same H H') : But d H H' := fun b o _ h => s b o h
theorem But.trans {d : Addr} {H H1 H2 : Hp} (a : But d H H1) (b : But d H1 H2) : But d H H2 := fun c o n h => b c o n (a c o n h)
theorem But.at {d : Addr} {H : Hp} {o : HO} : But d H (upd H d o) := fun b u n h => by
  rw [upd_ne n]
  exact h
theorem But.put {d p : Addr} {H0 H : Hp} {o : HO} (s : But d H0 H) (h : H0 p = none) : But d H0 (upd H p o) := fun b x n e => by
  rw [upd_ne (ne_of_none e h)]
  exact s b x n e
theorem But.kt {d : Addr} {H H' : Hp} {kvs : List (List Key × V)} (s : But d H H') (h : H d = some (.dT kvs)) : KT H H' := fun t xs e =>
  s t _ (ne_of e h (by intro q; cases q)) e
theorem But.seq {K : PySem.W.Frag} {d a : Addr} {H H' : Hp} {kvs : List (List Key × V)} {xs : List V} (s : But d H H') (h : H d = some (.dT kvs)) (hs : SqL K H a xs) : SqL K H' a xs := by
  rcases hs with (hs | ⟨o, hs⟩) | hs
  · exact .inl (.inl (s _ _ (ne_of hs h (by intro q; cases q)) hs))
  · exact .inl (.inr ⟨o, s _ _ (ne_of hs h (by intro q; cases q)) hs⟩)
  · exact .inr hs
theorem TL.at' {H : Hp} : ∀ {xs : List V} {ds : List (List Int)} {i : Nat} {x : V}, TL H xs ds → xs[i]? = some x → ∃ t d, ds[i]? = some d ∧ x = .ref t ∧ H t = some (.tup (d.map V.int))
  | _, _, i, x, Paired.nil, e => by simp at e
  | _, _, 0, x, Paired.cons ⟨t, h1, h2⟩ _, e => by
    obtain rfl := Option.some.inj e
    exact ⟨t, _, rfl, h1, h2⟩
  | _, _, i + 1, x, Paired.cons _ r, e => by
    obtain ⟨t, d, h1, h2, h3⟩ := TL.at' (i := i) r (by simpa using e)
    exact ⟨t, d, by simpa using h1, h2, h3⟩
theorem TL.bite {H : Hp} {xs : List V} {ps : List (Nat × Nat)} {i : Nat} {x : V} (h : TL H xs (ps.map pr)) (e : xs[i]? = some x) :
    ∃ t p, ps[i]? = some p ∧ x = .ref t ∧ H t = some (.tup [.int (p.1 : Nat), .int (p.2 : Nat)]) := by
  obtain ⟨t, d, h1, h2, h3⟩ := TL.at' h e
  rw [List.getElem?_map] at h1
  cases e2 : ps[i]? with
  | none =>
    rw [e2] at h1
    cases h1
  | some p =>
    rw [e2] at h1
    have : pr p = d := Option.some.inj h1
    subst this
    exact ⟨t, p, rfl, h2, h3⟩
/-- the worths behind the bites -/
def wB (b : List Int) (p : Nat × Nat) : Nat := worthL (behindL b p.1 p.2)
theorem worth_mex (b : List Int) : worthL b = mex ((bitesL b).map (wB b)) := worthL_eq b
/-! ### numbers in a list -/
abbrev vN (l : List Nat) : List V := l.map fun m => V.int (m : Nat)
theorem inV_nat (m : Nat) : ∀ l : List Nat, inV (.int (m : Nat)) (vN l) = decide (m ∈ l)
  | [] => rfl
  | x :: l => by
    have ih := inV_nat m l
    unfold inV at *
    rw [vN, List.map_cons, List.any_cons, ih]
    by_cases e : m = x
    · subst e
      simp [eqV]
    · have : ((x : Int) == (m : Int)) = false := beq_eq_false_iff_ne.mpr fun z => e (by omega)
      simp [eqV, this, e]
theorem flat_nat : ∀ l : List Nat, (vN l).all flatV = true
  | [] => rfl
  | _ :: l => by
    rw [vN, List.map_cons, List.all_cons, flat_nat l]
    rfl
/-! ### a place among the bites -/
theorem any_tup (e : List Int) : ∀ ds : List (List Int), ((dT ds).any fun z => PyData.eqv z (.tuple (dI e))) = decide (e ∈ ds)
  | [] => rfl
  | d :: ds => by
    rw [dT, List.map_cons, List.any_cons, any_tup e ds, eqv_tup]
    by_cases h : e = d
    · subst h
      simp
    · have h' : ¬ d = e := fun z => h z.symm
      simp [h, h']
theorem pr_mem {ps : List (Nat × Nat)} {r c : Nat} : pr (r, c) ∈ ps.map pr ↔ (r, c) ∈ ps := by
  constructor
  · intro h
    obtain ⟨p, hp, e⟩ := List.mem_map.mp h
    have e : [(p.1 : Int), (p.2 : Int)] = [(r : Int), (c : Int)] := e
    injection e with e1 e2
    injection e2 with e2 _
    have : p = (r, c) := Prod.ext (by show p.1 = r; omega) (by show p.2 = c; omega)
    rw [← this]
    exact hp
  · exact fun h => List.mem_map_of_mem h
/-! ### adding by figures of two without carrying -/
theorem xor_odd (a b : Nat) : (a ^^^ b) % 2 = (a + b) % 2 := by
  have h : (a ^^^ b) % 2 = ((a % 2) ^^^ (b % 2)) % 2 := by
    have h1 : ((a ^^^ b) % 2 ^ 1) = (a % 2 ^ 1) ^^^ (b % 2 ^ 1) := Nat.xor_mod_two_pow
    have h2 : ((a % 2 ^ 1) ^^^ (b % 2 ^ 1)) < 2 ^ 1 := Nat.xor_lt_two_pow (Nat.mod_lt _ (by decide)) (Nat.mod_lt _ (by decide))
    rw [show (2 : Nat) = 2 ^ 1 from rfl, h1]
    exact (Nat.mod_eq_of_lt h2).symm
  rw [h]
  rcases Nat.mod_two_eq_zero_or_one a with ha | ha <;> rcases Nat.mod_two_eq_zero_or_one b with hb | hb <;> rw [ha, hb] <;> first | (show (0 : Nat) = _; omega) | (show (1 : Nat) = _; omega)
theorem xor_step (a b : Nat) : a ^^^ b = (if a % 2 = b % 2 then 0 else 1) + 2 * ((a / 2) ^^^ (b / 2)) := by
  have h1 : (a ^^^ b) / 2 = a / 2 ^^^ b / 2 := Nat.xor_div_two
  have h2 := xor_odd a b
  rw [← h1]
  split <;> omega
theorem xor_shift (a b j : Nat) : (a ^^^ b) / 2 ^ j = (a / 2 ^ j) ^^^ (b / 2 ^ j) := by
  rw [← Nat.shiftRight_eq_div_pow, ← Nat.shiftRight_eq_div_pow, ← Nat.shiftRight_eq_div_pow, Nat.shiftRight_xor_distrib]
/-- how many of ws have the figure f -/
def cntBit (ws : List Nat) (f : Nat) : Nat := (ws.filter fun x => decide (x / f % 2 = 1)).length
def xorL (ws : List Nat) : Nat := ws.foldr (· ^^^ ·) 0
theorem xorL_bit (j : Nat) : ∀ ws : List Nat, xorL ws / 2 ^ j % 2 = cntBit ws (2 ^ j) % 2
  | [] => by
    show 0 / 2 ^ j % 2 = 0 % 2
    rw [Nat.zero_div]
  | x :: ws => by
    have ih := xorL_bit j ws
    show (x ^^^ xorL ws) / 2 ^ j % 2 = _
    rw [xor_shift, xor_odd]
    unfold cntBit at *
    rw [List.filter_cons]
    by_cases h : x / 2 ^ j % 2 = 1
    · rw [if_pos (decide_eq_true h), List.length_cons]
      omega
    · rw [if_neg (by rw [decide_eq_false h]; exact Bool.false_ne_true)]
      omega
theorem xorL_lt : ∀ {ws : List Nat}, (∀ x ∈ ws, x < 128) → xorL ws < 128
  | [], _ => by decide
  | x :: ws, h => by
    have h1 := h x List.mem_cons_self
    have h2 := xorL_lt fun y hy => h y (List.mem_cons_of_mem _ hy)
    exact Nat.xor_lt_two_pow (n := 7) h1 h2
def figs : List Nat := [1, 2, 4, 8, 16, 32, 64]
def addF (ws fs : List Nat) : Nat := (fs.map fun f => f * (cntBit ws f % 2)).sum
theorem addF_more {ws fs : List Nat} {i f : Nat} (h : fs[i]? = some f) : addF ws (fs.take (i + 1)) = addF ws (fs.take i) + f * (cntBit ws f % 2) := by
  unfold addF
  rw [take_more h, List.map_append, List.sum_append]
  simp
theorem addF_all {ws : List Nat} (h : ∀ x ∈ ws, x < 128) : addF ws figs = xorL ws := by
  have h0 := xorL_bit 0 ws
  have h1 := xorL_bit 1 ws
  have h2 := xorL_bit 2 ws
  have h3 := xorL_bit 3 ws
  have h4 := xorL_bit 4 ws
  have h5 := xorL_bit 5 ws
  have h6 := xorL_bit 6 ws
  have hl := xorL_lt h
  have e : addF ws figs = 1 * (cntBit ws (2 ^ 0) % 2) + (2 * (cntBit ws (2 ^ 1) % 2) + (4 * (cntBit ws (2 ^ 2) % 2) + (8 * (cntBit ws (2 ^ 3) % 2) + (16 * (cntBit ws (2 ^ 4) % 2) + (32 * (cntBit ws (2 ^ 5) % 2) + (64 * (cntBit ws (2 ^ 6) % 2) + 0)))))) := rfl
  rw [e, ← h0, ← h1, ← h2, ← h3, ← h4, ← h5, ← h6]
  generalize xorL ws = n at hl
  omega
/-! ### tables: lists of lists of ints -/
abbrev LL (H : Hp) (xs : List V) (ds : List (List Int)) : Prop := Paired (fun (x : V) (d : List Int) => ∃ t, x = .ref t ∧ H t = some (.lst (d.map V.int))) xs ds
theorem LL.keep {H H' : Hp} (k : ∀ t xs, H t = some (.lst xs) → H' t = some (.lst xs)) {xs : List V} {ds : List (List Int)} (h : LL H xs ds) : LL H' xs ds :=
  Paired.mapP h fun _ _ ⟨t, e, z⟩ => ⟨t, e, k _ _ z⟩
theorem LL.keepM {H H' : Hp} : ∀ {xs : List V} {ds : List (List Int)}, LL H xs ds → (∀ t l, V.ref t ∈ xs → H t = some (.lst l) → H' t = some (.lst l)) → LL H' xs ds
  | _, _, Paired.nil, _ => Paired.nil
  | _, _, Paired.cons ⟨t, e, h⟩ r, k => Paired.cons ⟨t, e, k t _ (by rw [e]; exact List.mem_cons_self) h⟩ (LL.keepM r fun u l hu => k u l (List.mem_cons_of_mem _ hu))
theorem LL.same {H H' : Hp} (s : Same H H') {xs : List V} {ds : List (List Int)} (h : LL H xs ds) : LL H' xs ds := LL.keep (fun t xs e => s _ _ e) h
theorem LL.but {H H' : Hp} {d : Addr} {kvs : List (List Key × V)} (s : But d H H') (hd : H d = some (.dT kvs)) {xs : List V} {ds : List (List Int)} (h : LL H xs ds) : LL H' xs ds :=
  LL.keep (fun t xs e => s _ _ (ne_of e hd (by intro z; cases z)) e) h
theorem LL.length {H : Hp} {xs : List V} {ds : List (List Int)} (h : LL H xs ds) : xs.length = ds.length := Paired.length h
theorem LL.snoc {H : Hp} : ∀ {xs : List V} {ds : List (List Int)} {t : Addr} {d : List Int}, LL H xs ds → H t = some (.lst (d.map V.int)) → LL H (xs ++ [.ref t]) (ds ++ [d])
  | _, _, t, d, Paired.nil, e => Paired.cons ⟨t, rfl, e⟩ Paired.nil
  | _, _, t, d, Paired.cons r h, e => Paired.cons r (LL.snoc h e)
theorem LL.at {H : Hp} : ∀ {xs : List V} {ds : List (List Int)} {i : Nat} {x : V}, LL H xs ds → xs[i]? = some x → ∃ t d, ds[i]? = some d ∧ x = .ref t ∧ H t = some (.lst (d.map V.int))
  | _, _, i, x, Paired.nil, e => by simp at e
  | _, _, 0, x, Paired.cons ⟨t, h1, h2⟩ _, e => by
    obtain rfl := Option.some.inj e
    exact ⟨t, _, rfl, h1, h2⟩
  | _, _, i + 1, x, Paired.cons _ r, e => by
    obtain ⟨t, d, h1, h2, h3⟩ := LL.at (i := i) r (by simpa using e)
    exact ⟨t, d, by simpa using h1, h2, h3⟩
theorem LL.get {H : Hp} : ∀ {xs : List V} {ds : List (List Int)} {i : Nat} {d : List Int}, LL H xs ds → ds[i]? = some d → ∃ t, xs[i]? = some (.ref t) ∧ H t = some (.lst (d.map V.int))
  | _, _, i, d, Paired.nil, e => by simp at e
  | _, _, 0, d, Paired.cons ⟨t, h1, h2⟩ _, e => by
    obtain rfl := Option.some.inj e
    exact ⟨t, by rw [h1]; rfl, h2⟩
  | _, _, i + 1, d, Paired.cons _ r, e => by
    obtain ⟨t, h1, h2⟩ := LL.get (i := i) r (by simpa using e)
    exact ⟨t, by simpa using h1, h2⟩
theorem dp_lls {K : PySem.W.Frag} {H : Hp} : ∀ {xs : List V} {ds : List (List Int)}, LL H xs ds → DpAll K H xs (dL ds)
  | _, _, Paired.nil => .nil
  | _, _, Paired.cons ⟨t, e, h⟩ r => by
    subst e
    exact .cons (.lst (SqL.of h) (dp_ints _)) (dp_lls r)
theorem dp_table {K : PySem.W.Frag} {H : Hp} {a : Addr} {xs : List V} {ds : List (List Int)} (h : SqL K H a xs) (t : LL H xs ds) : Dp K H (.ref a) (.list (dL ds)) := .lst h (dp_lls t)
theorem eqv_table (ns ms : List (List Int)) : PyData.eqv (.list (dL ns)) (.list (dL ms)) = decide (ns = ms) := by rw [PyData.eqv, eqv_lists]
/-- a table: at most three bars -/
structure IsTable (ds : List (List Int)) : Prop where
  le : ds.length ≤ 3
  is : ∀ d ∈ ds, IsBar 5 d
/-- all of these lists are new -/
def NewL (H : Hp) (xs : List V) : Prop := ∀ x ∈ xs, ∀ t, x = V.ref t → H t = none
/-- [list(bar) for bar in table], the table at T, the block's own name in slot j, the new list at D -/
theorem copy_loop {K : PySem.W.Frag} {σ : L2.St} {H : Hp} {Qd : Hp → Prop} {j : Nat} {T D : Addr} {xs : List V} {ds : List (List Int)} (hj : j < σ.length) (hT : SqL K H T xs) (ll : LL H xs ds) (hl : xs.length ≤ 1000) (nD : H D = none)
    (q : ∀ H' ys, Same H H' → H' D = some (.lst ys) → LL H' ys ds → NewL H ys → V.ref D ∉ ys → Qd H') :
    ∃ W : Nat → Nat → Hp → Prop, (∃ m, W 0 m (upd H D (.lst []))) ∧ ∀ i m H, W i m H →
      ((Itl K T).stop i H ∧ Qd H) ∨ ((Itl K T).go i H ∧ ∃ Nx : Hp → Prop, (∀ H', Nx H' → ∃ m', m' < m ∧ W (i + 1) m' H') ∧ ∀ x H', (Itl K T).yld i H x H' → (gName j) x (wipe σ [j]) H' fun σ2 H2 => wipe σ2 [j] = wipe σ [j] ∧ tYes σ2 H2 fun b H3 =>
        if b = true then (tCB (fun xs H Q => ∃ p ys, xs = [V.ref p] ∧ (SqL K H p ys ∨ SqT K H p ys) ∧ ∀ l, H l = none → Q (V.ref l) (upd H l (.lst ys))) (tCons (tVar j) tNil)) σ2 H3 fun y H4 => ∃ acc, H4 D = some (.lst acc) ∧ acc.length < sizeLine ∧ Nx (upd H4 D (.lst (acc ++ [y]))) else Nx H3) := by
  refine lc_list (K := K) (a := T) (xs := xs) (fun n H' => ∃ ys : List V, Same H H' ∧ H' D = some (.lst ys) ∧ LL H' ys (ds.take n) ∧ NewL H ys ∧ ys.length = n ∧ V.ref D ∉ ys) ⟨[], sNew nD, upd_same, Paired.nil, fun x hx => (nomatch hx), rfl, by simp⟩ (fun n H' _ ⟨_, s, _⟩ => s.seq hT) ?_ ?_
  · rintro n x H1 hn ⟨ys, s1, hD, ly, ny, el, nm⟩
    obtain ⟨t, d, hd, rfl, ht⟩ := ll.at hn
    refine ⟨?_, yesT ?_⟩
    · show wipe ((wipe σ [j]).set j _) [j] = wipe σ [j]
      show ((σ.set j none).set j _).set j none = σ.set j none
      rw [List.set_set, List.set_set]
    have hw : ((wipe σ [j]).set j (some (V.ref t)))[j]? = some (some (V.ref t)) := by
      rw [List.getElem?_set_self (by show j < (σ.set j none).length; rw [List.length_set]; exact hj)]
    refine ⟨_, hw, t, _, rfl, .inl (SqL.of (s1 _ _ ht)), fun l nl => ?_⟩
    have Dl : D ≠ l := ne_of_none hD nl
    have hn' : n < xs.length := (List.getElem?_eq_some_iff.mp hn).1
    refine ⟨ys, by rw [upd_ne Dl]; exact hD, small' (by omega), ys ++ [.ref l], sPut (sThen s1 nl) nD, upd_same, ?_, ?_, by rw [List.length_append, el]; rfl, fun z => ?_⟩
    · rw [take_more hd]
      refine LL.snoc (LL.keepM ly fun c cs hm e => ?_) (by rw [upd_ne Dl.symm, upd_same])
      have h1 : c ≠ D := fun z => nm (by rw [← z]; exact hm)
      rw [upd_ne h1, upd_ne (ne_of_none e nl)]
      exact e
    · intro y hy u e
      rcases List.mem_append.mp hy with h | h
      · exact ny y h u e
      · have := List.mem_singleton.mp h
        rw [this] at e
        have : l = u := V.ref.inj e
        rw [← this]
        exact s1.free nl
    · rcases List.mem_append.mp z with h | h
      · exact nm h
      · exact Dl (V.ref.inj (List.mem_singleton.mp h))
  · rintro H1 ⟨ys, s1, hD, ly, ny, el, nm⟩
    rw [ll.length, List.take_length] at ly
    exact q H1 ys s1 hD ly ny nm
/-- the worths of a table's bars -/
def worthsL (ds : List (List Int)) : List Nat := ds.map worthL
theorem worth_le {b : List Int} (h : IsBar 5 b) : worthL b ≤ 25 := by
  have hw := mex_spec ((bitesL b).map (wB b))
  rw [← worth_mex] at hw
  have h1 := length_le_of_sub (l := List.range (worthL b)) (m := (bitesL b).map (wB b)) List.nodup_range fun x hx => hw.2 x (List.mem_range.mp hx)
  have h2 := bitesL_len h
  rw [List.length_range, List.length_map] at h1
  omega
theorem worths_lt {ds : List (List Int)} (h : ∀ d ∈ ds, IsBar 5 d) : ∀ x ∈ worthsL ds, x < 128 := fun x hx => by
  obtain ⟨d, hd, rfl⟩ := List.mem_map.mp hx
  have := worth_le (h d hd)
  omega
theorem xorL_snoc (x : Nat) : ∀ l : List Nat, xorL (l ++ [x]) = xorL l ^^^ x
  | [] => by
    show x ^^^ 0 = 0 ^^^ x
    rw [Nat.xor_comm]
  | y :: l => by
    show y ^^^ xorL (l ++ [x]) = (y ^^^ xorL l) ^^^ x
    rw [xorL_snoc x l, Nat.xor_assoc]
/-! ### winning bites -/
def isWin (tot : Nat) (d : List Int) (p : Nat × Nat) : Bool := decide (wB d p = tot ^^^ worthL d)
def tri (n : Nat) (p : Nat × Nat) : List Int := [(n : Int), (p.1 : Int), (p.2 : Int)]
def winBar (tot n : Nat) (d : List Int) (bs : List (Nat × Nat)) : List (List Int) := (bs.filter (isWin tot d)).map (tri n)
def winFrom (tot : Nat) : Nat → List (List Int) → List (List Int)
  | _, [] => []
  | n, d :: ds => winBar tot n d (bitesL d) ++ winFrom tot (n + 1) ds
def winL (ds : List (List Int)) : List (List Int) := winFrom (xorL (worthsL ds)) 0 ds
theorem winFrom_snoc (tot : Nat) (d : List Int) : ∀ (n : Nat) (l : List (List Int)), winFrom tot n (l ++ [d]) = winFrom tot n l ++ winBar tot (n + l.length) d (bitesL d)
  | n, [] => by simp [winFrom]
  | n, e :: l => by
    rw [List.cons_append, winFrom, winFrom, winFrom_snoc tot d (n + 1) l, List.append_assoc, List.length_cons, Nat.add_assoc, Nat.add_comm 1 l.length]
theorem winFrom_more (tot : Nat) {ds : List (List Int)} {i : Nat} {d : List Int} (h : ds[i]? = some d) : winFrom tot 0 (ds.take (i + 1)) = winFrom tot 0 (ds.take i) ++ winBar tot i d (bitesL d) := by
  have hi : i < ds.length := (List.getElem?_eq_some_iff.mp h).1
  rw [take_more h, winFrom_snoc, List.length_take, Nat.min_eq_left (Nat.le_of_lt hi), Nat.zero_add]
theorem winBar_more (tot n : Nat) (d : List Int) {bs : List (Nat × Nat)} {j : Nat} {p : Nat × Nat} (h : bs[j]? = some p) : winBar tot n d (bs.take (j + 1)) = winBar tot n d (bs.take j) ++ if isWin tot d p = true then [tri n p] else [] := by
  unfold winBar
  rw [take_more h, List.filter_append, List.map_append]
  cases e : isWin tot d p <;> simp [e]
theorem winBar_len (tot n : Nat) (d : List Int) (bs : List (Nat × Nat)) : (winBar tot n d bs).length ≤ bs.length := by
  unfold winBar
  rw [List.length_map]
  exact List.length_filter_le _ _
theorem winFrom_len (tot : Nat) : ∀ (n : Nat) (l : List (List Int)), (∀ d ∈ l, IsBar 5 d) → (winFrom tot n l).length ≤ 25 * l.length
  | _, [], _ => Nat.zero_le _
  | n, d :: l, h => by
    have h1 := winBar_len tot n d (bitesL d)
    have h2 := bitesL_len (h d List.mem_cons_self)
    have h3 := winFrom_len tot (n + 1) l fun e he => h e (List.mem_cons_of_mem _ he)
    rw [winFrom, List.length_append, List.length_cons]
    omega
theorem xorL_append (a b : List Nat) : xorL (a ++ b) = xorL a ^^^ xorL b := by
  induction a with
  | nil =>
    show xorL b = 0 ^^^ xorL b
    rw [Nat.xor_comm, Nat.xor_zero]
  | cons x a ih =>
    show x ^^^ xorL (a ++ b) = (x ^^^ xorL a) ^^^ xorL b
    rw [ih, Nat.xor_assoc]
theorem xor_cancel (a b : Nat) : a ^^^ b ^^^ b = a := by rw [Nat.xor_assoc, Nat.xor_self, Nat.xor_zero]
theorem xor_zero_iff {a b : Nat} : a ^^^ b = 0 ↔ a = b := by
  constructor
  · intro h
    have := xor_cancel a b
    rw [h, Nat.xor_comm, Nat.xor_zero] at this
    exact this.symm
  · rintro rfl
    exact Nat.xor_self a
/-- a worth put in another's place: all come to nought just where it is what is left of the sum -/
theorem put_zero {ws : List Nat} {n w x : Nat} (h : ws[n]? = some w) : xorL (ws.take n ++ [x] ++ ws.drop (n + 1)) = 0 ↔ x = xorL ws ^^^ w := by
  obtain ⟨hi, e⟩ := List.getElem?_eq_some_iff.mp h
  have hs : ws = ws.take n ++ [w] ++ ws.drop (n + 1) := by
    rw [List.append_assoc, List.singleton_append, ← e, ← List.drop_eq_getElem_cons hi, List.take_append_drop]
  have one : ∀ y : Nat, xorL [y] = y := fun y => Nat.xor_zero y
  have e1 : xorL (ws.take n ++ [x] ++ ws.drop (n + 1)) = (xorL (ws.take n) ^^^ xorL (ws.drop (n + 1))) ^^^ x := by
    rw [xorL_append, xorL_append, one, Nat.xor_assoc, Nat.xor_comm x, Nat.xor_assoc]
  have e2 : xorL ws = (xorL (ws.take n) ^^^ xorL (ws.drop (n + 1))) ^^^ w := by
    conv => lhs; rw [hs]
    rw [xorL_append, xorL_append, one, Nat.xor_assoc, Nat.xor_comm w, Nat.xor_assoc]
  rw [e1, xor_zero_iff, e2, xor_cancel]
  exact eq_comm
/-! ### two places that change -/
def But2 (d f : Addr) (H H' : Hp) : Prop := ∀ b o, b ≠ d → b ≠ f → H b = some o → H' b = some o
theorem But2.refl {d f : Addr} {H : Hp} : But2 d f H H := fun _ _ _ _ h => h
theorem But2.trans {d f : Addr} {H H1 H2 : Hp} (a : But2 d f H H1) (b : But2 d f H1 H2) : But2 d f H H2 := fun c o n m h => b c o n m (a c o n m h)
theorem But2.same {d f : Addr} {H H' : Hp} (s : Same H H') : But2 d f H H' := fun b o _ _ h => s b o h
theorem But2.but {d f : Addr} {H H' : Hp} (s : But d H H') : But2 d f H H' := fun b o n _ h => s b o n h
theorem But2.at {d f : Addr} {H : Hp} {o : HO} : But2 d f H (upd H f o) := fun b u _ n h => by
  rw [upd_ne n]
  exact h
theorem But2.same0 {d f : Addr} {H0 H H' : Hp} (s : Same H0 H) (hd : H0 d = none) (hf : H0 f = none) (b : But2 d f H H') : Same H0 H' := fun c o e => b c o (ne_of_none e hd) (ne_of_none e hf) (s c o e)
theorem But2.kt {d f : Addr} {H H' : Hp} {kvs : List (List Key × V)} {ys : List V} (b : But2 d f H H') (hd : H d = some (.dT kvs)) (hf : H f = some (.lst ys)) : KT H H' := fun t xs e =>
  b t _ (ne_of e hd (by intro z; cases z)) (ne_of e hf (by intro z; cases z)) e
theorem for_enum {K : PySem.W.Frag} {a : Addr} {xs : List V} {g : TG} {tb : TS} {D : Ends} {σ : L2.St} {H : Hp} (Pv : Nat → L2.St → Hp → Prop) (h0 : Pv 0 σ H) (hl : ∀ i σ H, i ≤ xs.length → Pv i σ H → SqL K H a xs)
    (hs : ∀ i x σ H T, xs[i]? = some x → Pv i σ H → H T = none → g (.ref T) σ (upd H T (.tup [.int (i : Nat), x])) fun σ2 H2 => tb { D with nx := Pv (i + 1), ct := Pv (i + 1), bk := D.nx } σ2 H2) (hd : ∀ σ H, Pv xs.length σ H → D.nx σ H) :
    ∃ W : Nat → Nat → L2.St → Hp → Prop, (∃ m, W 0 m σ H) ∧ ∀ i m σ H, W i m σ H →
      ((Ite K a).stop i H ∧ D.nx σ H) ∨ ((Ite K a).go i H ∧ ∃ N : L2.St → Hp → Prop, (∀ σ' H', N σ' H' → ∃ m', m' < m ∧ W (i + 1) m' σ' H') ∧ ∀ x H', (Ite K a).yld i H x H' → g x σ H' fun σ2 H2 => tb { D with nx := N, ct := N, bk := D.nx } σ2 H2) := by
  refine ⟨fun i m σ H => m = xs.length - i ∧ i ≤ xs.length ∧ Pv i σ H, ⟨xs.length, by simp, Nat.zero_le _, h0⟩, ?_⟩
  rintro i m σ H ⟨rfl, hi, p⟩
  have q := hl i σ H hi p
  by_cases hlt : i < xs.length
  · refine .inr ⟨⟨xs, xs[i], q, by simp [hlt]⟩, Pv (i + 1), fun σ' H' p' => ⟨xs.length - (i + 1), by omega, rfl, hlt, p'⟩, fun x H' y => ?_⟩
    obtain ⟨T, x', rfl, nT, rfl, y⟩ := y
    exact hs i x' σ H T (y xs q) p nT
  · have e : i = xs.length := by omega
    subst e
    exact .inl ⟨⟨xs, q, Nat.le_refl _⟩, hd σ H p⟩
/-! ### all spots, the play -/
def spotsFrom : Nat → List (List Int) → List (List Int)
  | _, [] => []
  | n, d :: ds => (bitesL d).map (tri n) ++ spotsFrom (n + 1) ds
def spots (ds : List (List Int)) : List (List Int) := spotsFrom 0 ds
theorem spotsFrom_snoc (d : List Int) : ∀ (n : Nat) (l : List (List Int)), spotsFrom n (l ++ [d]) = spotsFrom n l ++ (bitesL d).map (tri (n + l.length))
  | n, [] => by simp [spotsFrom]
  | n, e :: l => by
    rw [List.cons_append, spotsFrom, spotsFrom, spotsFrom_snoc d (n + 1) l, List.append_assoc, List.length_cons, Nat.add_assoc, Nat.add_comm 1 l.length]
theorem spots_more {ds : List (List Int)} {i : Nat} {d : List Int} (h : ds[i]? = some d) : spots (ds.take (i + 1)) = spots (ds.take i) ++ (bitesL d).map (tri i) := by
  have hi : i < ds.length := (List.getElem?_eq_some_iff.mp h).1
  unfold spots
  rw [take_more h, spotsFrom_snoc, List.length_take, Nat.min_eq_left (Nat.le_of_lt hi), Nat.zero_add]
theorem mem_spotsFrom {e : List Int} : ∀ {k : Nat} {ds : List (List Int)}, e ∈ spotsFrom k ds → ∃ n d p, ds[n]? = some d ∧ p ∈ bitesL d ∧ e = tri (k + n) p
  | _, [], h => nomatch h
  | k, d :: ds, h => by
    rw [spotsFrom] at h
    rcases List.mem_append.mp h with h | h
    · obtain ⟨p, hp, rfl⟩ := List.mem_map.mp h
      exact ⟨0, d, p, rfl, hp, rfl⟩
    · obtain ⟨n, c, p, h1, h2, h3⟩ := mem_spotsFrom h
      exact ⟨n + 1, c, p, by simpa using h1, h2, by rw [h3]; unfold tri; congr 1; omega⟩
theorem mem_spots {e : List Int} {ds : List (List Int)} (h : e ∈ spots ds) : ∃ n d p, ds[n]? = some d ∧ p ∈ bitesL d ∧ e = tri n p := by
  obtain ⟨n, d, p, h1, h2, h3⟩ := mem_spotsFrom h
  rw [Nat.zero_add] at h3
  exact ⟨n, d, p, h1, h2, h3⟩
theorem spotsFrom_len : ∀ (n : Nat) (l : List (List Int)), (∀ d ∈ l, IsBar 5 d) → (spotsFrom n l).length ≤ 25 * l.length
  | _, [], _ => Nat.zero_le _
  | n, d :: l, h => by
    have h2 := bitesL_len (h d List.mem_cons_self)
    have h3 := spotsFrom_len (n + 1) l fun e he => h e (List.mem_cons_of_mem _ he)
    rw [spotsFrom, List.length_append, List.length_cons, List.length_map]
    omega
theorem spotsFrom_none : ∀ {k : Nat} {ds : List (List Int)}, spotsFrom k ds = [] → xorL (worthsL ds) = 0
  | _, [], _ => rfl
  | k, d :: ds, h => by
    rw [spotsFrom] at h
    obtain ⟨h1, h2⟩ := List.append_eq_nil_iff.mp h
    have ih := spotsFrom_none h2
    have hb : bitesL d = [] := List.map_eq_nil_iff.mp h1
    have hw : worthL d = 0 := by
      rw [worth_mex, hb]
      rfl
    show worthL d ^^^ xorL (worthsL ds) = 0
    rw [hw, ih]
    rfl
theorem mem_winFrom {e : List Int} {tot : Nat} : ∀ {k : Nat} {ds : List (List Int)}, e ∈ winFrom tot k ds → ∃ n d p, ds[n]? = some d ∧ p ∈ bitesL d ∧ wB d p = tot ^^^ worthL d ∧ e = tri (k + n) p
  | _, [], h => nomatch h
  | k, d :: ds, h => by
    rw [winFrom] at h
    rcases List.mem_append.mp h with h | h
    · obtain ⟨p, hp, rfl⟩ := List.mem_map.mp h
      obtain ⟨h1, h2⟩ := List.mem_filter.mp hp
      exact ⟨0, d, p, rfl, h1, of_decide_eq_true h2, rfl⟩
    · obtain ⟨n, c, p, h1, h2, h3, h4⟩ := mem_winFrom h
      exact ⟨n + 1, c, p, by simpa using h1, h2, h3, by rw [h4]; unfold tri; congr 1; omega⟩
theorem winFrom_has {tot : Nat} {p : Nat × Nat} {d : List Int} (hp : p ∈ bitesL d) (hw : wB d p = tot ^^^ worthL d) : ∀ {k n : Nat} {ds : List (List Int)}, ds[n]? = some d → winFrom tot k ds ≠ []
  | _, _, [], h => by simp at h
  | k, 0, c :: ds, h => by
    obtain rfl := Option.some.inj h
    rw [winFrom]
    intro z
    have h1 := (List.append_eq_nil_iff.mp z).1
    have h2 : p ∈ (bitesL c).filter (isWin tot c) := List.mem_filter.mpr ⟨hp, decide_eq_true hw⟩
    rw [List.map_eq_nil_iff.mp h1] at h2
    cases h2
  | k, n + 1, c :: ds, h => by
    rw [winFrom]
    intro z
    exact winFrom_has hp hw (k := k + 1) (by simpa using h) (List.append_eq_nil_iff.mp z).2
theorem nim3 : (List.range 26).all (fun a => (List.range 26).all fun b => (List.range 26).all fun c => decide (a ^^^ (b ^^^ c) = 0) || decide ((a ^^^ (b ^^^ c)) ^^^ a < a) || decide ((a ^^^ (b ^^^ c)) ^^^ b < b) || decide ((a ^^^ (b ^^^ c)) ^^^ c < c)) = true := by decide +kernel
theorem nim_at {a b c : Nat} (ha : a ≤ 25) (hb : b ≤ 25) (hc : c ≤ 25) (h : a ^^^ (b ^^^ c) ≠ 0) : (a ^^^ (b ^^^ c)) ^^^ a < a ∨ (a ^^^ (b ^^^ c)) ^^^ b < b ∨ (a ^^^ (b ^^^ c)) ^^^ c < c := by
  have q := List.all_eq_true.mp (List.all_eq_true.mp (List.all_eq_true.mp nim3 a (List.mem_range.mpr (by omega))) b (List.mem_range.mpr (by omega))) c (List.mem_range.mpr (by omega))
  rw [decide_eq_false h, Bool.false_or, Bool.or_eq_true, Bool.or_eq_true, decide_eq_true_eq, decide_eq_true_eq, decide_eq_true_eq] at q
  rcases q with (q | q) | q
  · exact .inl q
  · exact .inr (.inl q)
  · exact .inr (.inr q)
theorem nim_list {ws : List Nat} (hl : ws.length ≤ 3) (h25 : ∀ x ∈ ws, x ≤ 25) (h : xorL ws ≠ 0) : ∃ n w : Nat, ws[n]? = some w ∧ xorL ws ^^^ w < w := by
  match ws, hl with
  | [], _ => exact absurd rfl h
  | [a], _ =>
    have e : xorL [a] = a ^^^ (0 ^^^ 0) := rfl
    rw [e] at h ⊢
    rcases nim_at (h25 a (by simp)) (Nat.zero_le _) (Nat.zero_le _) h with q | q | q
    · exact ⟨0, a, rfl, q⟩
    · exact absurd q (Nat.not_lt_zero _)
    · exact absurd q (Nat.not_lt_zero _)
  | [a, b], _ =>
    have e : xorL [a, b] = a ^^^ (b ^^^ 0) := rfl
    rw [e] at h ⊢
    rcases nim_at (h25 a (by simp)) (h25 b (by simp)) (Nat.zero_le _) h with q | q | q
    · exact ⟨0, a, rfl, q⟩
    · exact ⟨1, b, rfl, q⟩
    · exact absurd q (Nat.not_lt_zero _)
  | [a, b, c], _ =>
    have e : xorL [a, b, c] = a ^^^ (b ^^^ c) := by
      show a ^^^ (b ^^^ (c ^^^ 0)) = _
      rw [Nat.xor_zero]
    rw [e] at h ⊢
    rcases nim_at (h25 a (by simp)) (h25 b (by simp)) (h25 c (by simp)) h with q | q | q
    · exact ⟨0, a, rfl, q⟩
    · exact ⟨1, b, rfl, q⟩
    · exact ⟨2, c, rfl, q⟩
  | _ :: _ :: _ :: _ :: _, hl =>
    simp at hl
/-- POINT 8: where the worth is not nought there is a winning bite -/
theorem win_there {ds : List (List Int)} (it : IsTable ds) (h : xorL (worthsL ds) ≠ 0) : winL ds ≠ [] := by
  obtain ⟨n, x, hn, hx⟩ := nim_list (ws := worthsL ds) (by unfold worthsL; rw [List.length_map]; exact it.le) (fun x hx => by
    obtain ⟨d, hd, rfl⟩ := List.mem_map.mp hx
    exact worth_le (it.is d hd)) h
  unfold worthsL at hn
  rw [List.getElem?_map] at hn
  cases e : ds[n]? with
  | none => rw [e] at hn; cases hn
  | some d =>
    rw [e] at hn
    obtain rfl : worthL d = x := Option.some.inj hn
    have hw := mex_spec ((bitesL d).map (wB d))
    rw [← worth_mex] at hw
    obtain ⟨p, hp, ep⟩ := List.mem_map.mp (hw.2 _ hx)
    exact winFrom_has hp ep e
theorem xorL_set : ∀ {ws : List Nat} {n w : Nat} (x : Nat), ws[n]? = some w → xorL (ws.set n x) = (xorL ws ^^^ w) ^^^ x
  | [], n, w, x, h => by simp at h
  | y :: ws, 0, w, x, h => by
    obtain rfl := Option.some.inj h
    show x ^^^ xorL ws = ((y ^^^ xorL ws) ^^^ y) ^^^ x
    rw [Nat.xor_comm y (xorL ws), xor_cancel, Nat.xor_comm]
  | y :: ws, n + 1, w, x, h => by
    have ih := xorL_set (ws := ws) (n := n) x (by simpa using h)
    show y ^^^ xorL (ws.set n x) = ((y ^^^ xorL ws) ^^^ w) ^^^ x
    rw [ih, Nat.xor_assoc, Nat.xor_assoc, Nat.xor_assoc]
theorem worths_set {ds : List (List Int)} {n : Nat} {d : List Int} (p : Nat × Nat) (h : ds[n]? = some d) : xorL (worthsL (ds.set n (behindL d p.1 p.2))) = (xorL (worthsL ds) ^^^ worthL d) ^^^ wB d p := by
  unfold worthsL
  rw [List.map_set]
  exact xorL_set _ (by rw [List.getElem?_map, h]; rfl)
def total (ds : List (List Int)) : Nat := (ds.map pieces).sum
theorem total_set : ∀ {ds : List (List Int)} {n : Nat} {d e : List Int}, ds[n]? = some d → pieces e < pieces d → total (ds.set n e) < total ds
  | [], n, d, e, h, _ => by simp at h
  | c :: ds, 0, d, e, h, hl => by
    obtain rfl := Option.some.inj h
    show ((e :: ds).map pieces).sum < ((c :: ds).map pieces).sum
    rw [List.map_cons, List.map_cons, List.sum_cons, List.sum_cons]
    omega
  | c :: ds, n + 1, d, e, h, hl => by
    have ih := total_set (ds := ds) (n := n) (by simpa using h) hl
    unfold total at ih
    show ((c :: ds.set n e).map pieces).sum < ((c :: ds).map pieces).sum
    rw [List.map_cons, List.map_cons, List.sum_cons, List.sum_cons]
    omega
theorem table_set {ds : List (List Int)} (it : IsTable ds) {n : Nat} {e : List Int} (h : IsBar 5 e) : IsTable (ds.set n e) := by
  refine ⟨by rw [List.length_set]; exact it.le, fun d hd => ?_⟩
  rcases List.mem_or_eq_of_mem_set hd with h' | h'
  · exact it.is d h'
  · rw [h']
    exact h
theorem LL.set {H : Hp} {t : Addr} {e : List Int} (he : H t = some (.lst (e.map V.int))) : ∀ {xs : List V} {ds : List (List Int)} (n : Nat), LL H xs ds → LL H (xs.set n (.ref t)) (ds.set n e)
  | _, _, _, Paired.nil => Paired.nil
  | _, _, 0, Paired.cons _ r => Paired.cons ⟨t, rfl, he⟩ r
  | _, _, n + 1, Paired.cons q r => Paired.cons q (LL.set he n r)
theorem eqv_tl_nil (ls : List (List Int)) : PyData.eqv (.list (dT ls)) (.list []) = decide (ls = []) := by
  rw [PyData.eqv]
  cases ls with
  | nil => simp [dT, PyData.eqvAll]
  | cons _ _ => simp [dT, PyData.eqvAll]
theorem shaped_nil : SeqAt.shaped (.list []) = true := shaped_list []
/-! ### the text -/
def topS (i : Nat) : Stmt := PySem.Challenge.pw_bitebar_k12_whole_played.main.body.getD i (.Pass ⟨0, 0, 0, 0⟩)
abbrev s_is_bar : Stmt := topS 8
abbrev N_is_bar : List Str := ["bar", "before", "pieces"]
theorem sc_is_bar : FnScope N_is_bar ["bar"] (defScope s_is_bar) := ⟨rfl, rfl, rfl, by decide +kernel, rfl, by decide +kernel, by decide +kernel⟩
section
variable {P : Program} {w : World} {K : PySem.W.Frag} {mg : Str → Option Value} {base : Heap}
/-- is_bar(bar) -/
def sp_is_bar (K : PySem.W.Frag) : Sp := fun vs H Q _ => ∃ (a : Addr) (ns : List Int), vs = [.ref a] ∧ SqL K H a (ns.map V.int) ∧ Q (.bl (isBarB ns)) H
theorem ok_is_bar {f : Addr} {fd : FuncData} (F : Fun K "is_bar" "is_bar" s_is_bar f fd) (m_len : mg "len" = none) {t1 t2 : Tok} (g_MOST_ROWS : mg "MOST_ROWS" = some (.int 5 t1)) (g_MOST_PIECES : mg "MOST_PIECES" = some (.int 5 t2)) :
    FnOk P w K mg base CX0 1 f fd ["bar"] (sp_is_bar K) := by
  refine F.ok sc_is_bar (fun vs H Q E h => ?_) (fun cdv A outer s H vs Q E hr h => ?_)
  · obtain ⟨a, ns, rfl, _⟩ := h
    rfl
  · obtain ⟨a, ns, rfl, hS, q⟩ := h
    have hl : (ns.map V.int).length = ns.length := List.length_map _
    refine ⟨_, (pss_cons (ps_if (PW.pt (pw_or (pt_cmpR op_lt (pe_callB (lenK (K := K)) (by rfl) m_len PySem.boot_len (pa_cons (pv 0) pa_nil)) pe_int (nomark _)) (pw_or1 (pt_cmpR op_gt (pe_callB (lenK (K := K)) (by rfl) m_len PySem.boot_len (pa_cons (pv 0) pa_nil)) (pe_glob (v := .int 5) (by rfl) g_MOST_ROWS ⟨_, rfl⟩) (nomark _)))))
        (pss_one (ps_ret pe_bl))
        pss_nil)
      (pss_cons (ps_set (i := 1) sc_is_bar.nd rfl (.inl rfl) (pe_glob (v := .int 5) (by rfl) g_MOST_PIECES ⟨_, rfl⟩))
      (pss_cons (ps_for PassesOwn.never rfl (pi_listK (K := K) (pv 0)) (pg_name (i := 2) sc_is_bar.nd rfl (.inl rfl))
        (pss_cons (ps_if (PW.pt (pw_or (pt_cmpR op_lt (pv 2) pe_int (nomark _)) (pw_or1 (pt_cmpR op_gt (pv 2) (pv 1) (nomark _)))))
          (pss_one (ps_ret pe_bl))
          pss_nil)
        (pss_one (ps_set (i := 1) sc_is_bar.nd rfl (.inl rfl) (pv 2)))))
      (pss_one (ps_ret pe_bl))))), ?_⟩
    refine ⟨_, rfl, a, _, rfl, .inl hS, _, _, rfl, rfl, _, rfl, ite2 (fun c => iteT ?_) (fun c => ?_)⟩
    · have c' := of_decide_eq_true c
      rw [hl] at c'
      have e : isBarB ns = false := by
        unfold isBarB
        rw [decide_eq_false (by omega), Bool.false_and]
      rw [e] at q
      exact q
    · refine ⟨_, rfl, a, _, rfl, .inl hS, _, _, rfl, rfl, _, rfl, ite2 (fun c2 => ?_) (fun c2 => ?_)⟩
      · have c' := of_decide_eq_true c2
        rw [hl] at c'
        have e : isBarB ns = false := by
          unfold isBarB
          rw [decide_eq_false (by omega), Bool.false_and]
        rw [e] at q
        exact q
      · have c1 := of_decide_eq_false (Bool.eq_false_iff.mpr c)
        have c2 := of_decide_eq_false (Bool.eq_false_iff.mpr c2)
        rw [hl] at c1 c2
        have e : isBarB ns = falls 5 ns := by
          unfold isBarB
          rw [decide_eq_true (by omega), Bool.true_and]
        rw [e] at q
        refine ⟨_, rfl, a, rfl, ⟨_, hS⟩, for_list (K := K) (a := a) (xs := ns.map V.int) (fun i σ H' => ∃ (m : Int) (v : Option V), σ = [some (.ref a), some (.int m), v] ∧ H' = H ∧ falls 5 ns = falls m (ns.drop i))
          ⟨5, none, rfl, rfl, rfl⟩ (fun i σ H' _ ⟨_, _, _, e, _⟩ => e ▸ hS) ?_ ?_⟩
        · rintro i y σ H' hi ⟨m, v, rfl, rfl, ef⟩
          obtain ⟨z, hz, rfl⟩ := map_get hi
          have hd : ns.drop i = z :: ns.drop (i + 1) := by
            obtain ⟨hi', e⟩ := List.getElem?_eq_some_iff.mp hz
            rw [List.drop_eq_getElem_cons hi', e]
          rw [hd, falls] at ef
          refine ⟨_, rfl, _, _, rfl, rfl, _, rfl, ite2 (fun c => iteT ?_) (fun c => ?_)⟩
          · have c' := of_decide_eq_true c
            rw [decide_eq_false (by omega), Bool.false_and] at ef
            rw [ef] at q
            exact q
          · refine ⟨_, rfl, _, rfl, _, _, rfl, rfl, _, rfl, ite2 (fun c2 => ?_) (fun c2 => ?_)⟩
            · have c' := of_decide_eq_true c2
              rw [decide_eq_false (by omega), Bool.false_and] at ef
              rw [ef] at q
              exact q
            · have c3 := of_decide_eq_false (Bool.eq_false_iff.mpr c)
              have c4 := of_decide_eq_false (Bool.eq_false_iff.mpr c2)
              rw [decide_eq_true (by omega), Bool.true_and] at ef
              exact ⟨_, rfl, z, some (.int z), rfl, rfl, ef⟩
        · rintro σ H' ⟨m, v, rfl, rfl, ef⟩
          rw [hl, List.drop_length, falls] at ef
          rw [ef] at q
          exact q
end
abbrev s_asked_bar : Stmt := topS 9
abbrev N_asked_bar : List Str := ["bar"]
theorem sc_asked_bar : FnScope N_asked_bar ["bar"] (defScope s_asked_bar) := ⟨rfl, rfl, rfl, by decide +kernel, rfl, by decide +kernel, by decide +kernel⟩
section
variable {P : Program} {w : World} {K : PySem.W.Frag} {mg : Str → Option Value} {base : Heap}
/-- asked_bar(bar), good bars -/
def sp_asked_bar (K : PySem.W.Frag) : Sp := fun vs H Q _ => ∃ (a : Addr) (ns : List Int), vs = [.ref a] ∧ SqL K H a (ns.map V.int) ∧ isBarB ns = true ∧ Q .non H
theorem ok_asked_bar {f : Addr} {fd : FuncData} (F : Fun K "asked_bar" "asked_bar" s_asked_bar f fd) (C_is_bar : Cal P w K mg base CX0 1 "is_bar" ["bar"] (sp_is_bar K)) :
    FnOk P w K mg base CX0 2 f fd ["bar"] (sp_asked_bar K) := by
  refine F.ok sc_asked_bar (fun vs H Q E h => ?_) (fun cdv A outer s H vs Q E hr h => ?_)
  · obtain ⟨a, ns, rfl, _⟩ := h
    rfl
  · obtain ⟨a, ns, rfl, hS, hb, q⟩ := h
    refine ⟨_, (pss_one (ps_if (pt_not (pt_val (pe_c C_is_bar hr (by decide) pass0 (pa_cons (pv 0) pa_nil))))
        (pss_one ps_never)
        pss_nil)), ?_⟩
    refine ⟨_, rfl, a, ns, rfl, hS, _, rfl, ?_⟩
    rw [hb]
    exact iteF q
end
abbrev s_bites_of : Stmt := topS 10
abbrev N_bites_of : List Str := ["bar", "found", "row", "column"]
theorem sc_bites_of : FnScope N_bites_of ["bar"] (defScope s_bites_of) := ⟨rfl, rfl, rfl, by decide +kernel, rfl, by decide +kernel, by decide +kernel⟩
section
variable {P : Program} {w : World} {K : PySem.W.Frag} {mg : Str → Option Value} {base : Heap}
/-- bites_of(bar): a new list of new tuples -/
def sp_bites_of (K : PySem.W.Frag) : Sp := fun vs H Q _ => ∃ (a : Addr) (ns : List Int), vs = [.ref a] ∧ SqL K H a (ns.map V.int) ∧ IsBar 5 ns ∧
  ∀ H' p xs, Same H H' → H p = none → H' p = some (.lst xs) → TL H' xs ((bitesL ns).map pr) → Q (.ref p) H'
theorem ok_bites_of {f : Addr} {fd : FuncData} (F : Fun K "bites_of" "bites_of" s_bites_of f fd) (m_len : mg "len" = none) (m_range : mg "range" = none) (m_int : mg "int" = none) :
    FnOk P w K mg base CX0 1 f fd ["bar"] (sp_bites_of K) := by
  refine F.ok sc_bites_of (fun vs H Q E h => ?_) (fun cdv A outer s H vs Q E hr h => ?_)
  · obtain ⟨a, ns, rfl, _⟩ := h
    rfl
  · obtain ⟨a, ns, rfl, hS, hb, q⟩ := h
    have hl : (ns.map V.int).length = ns.length := List.length_map _
    have hl5 : ns.length ≤ 5 := by have := hb.le; omega
    refine ⟨_, (pss_cons (ps_set (i := 1) sc_bites_of.nd rfl (.inl rfl) (pe_lst pa_nil))
      (pss_cons (ps_for PassesOwn.never rfl (pi_range1 (by rfl) m_range (pa_cons (pe_callB (lenK (K := K)) (by rfl) m_len PySem.boot_len (pa_cons (pv 0) pa_nil)) pa_nil)) (pg_name (i := 2) sc_bites_of.nd rfl (.inr rfl))
        (pss_one (ps_expr (pe_bmK (K := K) PySem.F.plainAttrs_list PySem.F.slot_list_extend PySem.F.type_list_extend mt_extend (pv 1) (pa_cons (pe_lc (own := [("column", 3)]) (g := gName 3) (tt := tYes) rfl sc_bites_of.nd (pi_range2 (by rfl) m_range (pa_cons (pe_callTy call_int1 (by rfl) m_int (by decide +kernel) (pa_cons (pe_cmpR op_eq (pv 2) pe_int (nomark _)) pa_nil)) (pa_cons (pe_ix (ixK (K := K)) (pv 0) (pv 2) (fun _ _ => rfl)) pa_nil))) (blkOk_by (N := N_bites_of) (sc := defScope s_bites_of) (by decide +kernel)) (fun _ _ _ _ _ => (pg_name (i := 3) sc_bites_of.nd rfl (.inl rfl))) (fun _ _ _ _ _ => pts_nil) (fun _ _ _ _ _ => (pe_tup (pa_cons (pv 2) (pa_cons (pv 3) pa_nil))))) pa_nil)))))
      (pss_one (ps_ret (pv 1))))), ?_⟩
    refine ⟨Nat.zero_le _, fun o no => ?_⟩
    have s1 : Same H (upd H o (.lst [])) := sNew no
    refine ⟨_, rfl, a, _, rfl, .inl (s1.seq hS), _, rfl, by rw [hl]; omega, by rw [hl]; omega,
      for_range (lo := 0) (fun i σ H' => ∃ (y2 : Option V) (xs : List V), σ = [some (.ref a), some (.ref o), y2, none] ∧ Same H H' ∧ H' o = some (.lst xs) ∧ TL H' xs ((bitesL (ns.take i)).map pr))
      ⟨none, [], rfl, s1, upd_same, TL.nil⟩ ?_ ?_⟩
    · rintro i σ H1 hi ⟨y2, xs, rfl, sm, ho, ht⟩
      rw [hl, Int.toNat_natCast] at hi
      have hz := List.getElem?_eq_getElem hi
      have hx := hb.rg ns[i] (List.getElem_mem hi)
      have hA : SqL K H1 a (ns.map V.int) := sm.seq hS
      rw [Int.zero_add]
      refine ⟨_, rfl, .inl ⟨rfl, _, SqL.of ho⟩, ?_⟩
      obtain ⟨L, eL, L1, rL, pL⟩ : ∃ L : Nat, (if decide (V.int (i : Int) = V.int 0) = true then (1 : Int) else 0) = (L : Int) ∧ L ≤ 1 ∧ rowL i L = [] ∧ 0 < i + L := by
        by_cases e : i = 0
        · subst e
          exact ⟨1, rfl, Nat.le_refl _, rfl, by omega⟩
        · refine ⟨0, if_neg ?_, Nat.zero_le _, rfl, by omega⟩
          intro z
          have := V.int.inj (of_decide_eq_true z)
          omega
      refine ⟨_, rfl, rfl, .inr ⟨_, rfl, ?_⟩⟩
      rw [eL]
      refine ⟨_, rfl, _, rfl, a, _, _, _, rfl, rfl, hA, at_map hz, _, _, rfl, ⟨by omega, by omega, by omega, by omega⟩, fun D nD => ?_⟩
      have oD : o ≠ D := ne_of_none ho nD
      refine lc_range (lo := (L : Int)) (n := (ns[i] - (L : Int)).toNat) (fun j H' => ∃ ys : List V, Same H1 H' ∧ H' D = some (.lst ys) ∧ TL H' ys ((rowL i (L + j)).map pr))
        ⟨[], sNew nD, upd_same, by rw [Nat.add_zero, rL]; exact TL.nil⟩ ?_ ?_
      · rintro j H2 hj ⟨ys, sm2, hD, ht2⟩
        refine ⟨rfl, yesT ?_⟩
        refine ⟨_, rfl, _, rfl, by show 2 ≤ sizeLine; decide, fun t nt => ?_⟩
        have Dt : D ≠ t := ne_of_none hD nt
        have k2 : KT H2 (upd H2 t (.tup [.int (i : Int), .int ((L : Int) + (j : Int))])) := KT.new nt
        have hD2 : upd H2 t (.tup [.int (i : Int), .int ((L : Int) + (j : Int))]) D = some (.lst ys) := by rw [upd_ne Dt]; exact hD
        have hlen : ys.length = (rowL i (L + j)).length := by rw [ht2.length, List.length_map]
        have hlen2 := rowL_len i (L + j)
        refine ⟨ys, hD2, small' (by omega), _, sPut (sThen sm2 nt) nD, upd_same, ?_⟩
        rw [← Nat.add_assoc, rowL, if_pos (by omega), List.map_append]
        refine TL.keep (KT.lst hD2) ((ht2.keep k2).snoc ?_)
        rw [upd_same]
        all_goals rfl
      · rintro H2 ⟨ys, sm2, hD, ht2⟩
        have eN : L + (ns[i] - (L : Int)).toNat = ns[i].toNat := by omega
        rw [eN] at ht2
        have ho2 := sm2 _ _ ho
        have hx1 : xs.length ≤ 25 := by
          rw [ht.length, List.length_map]
          exact bitesL_take_len hb i
        have hy1 : ys.length ≤ 5 := by
          have := rowL_len i ns[i].toNat
          rw [ht2.length, List.length_map]
          omega
        refine ⟨o, D, xs, ys, rfl, rfl, ho2, hD, small (by omega), ?_⟩
        refine ⟨some (.int (i : Int)), xs ++ ys, rfl, sPut (sm.trans sm2) no, upd_same, ?_⟩
        rw [bitesL_more hz, List.map_append]
        exact TL.keep (KT.lst ho2) ((ht.keep (KT.same sm2)).append ht2)
    · rintro σ H1 ⟨y2, xs, rfl, sm, ho, ht⟩
      rw [hl, Int.toNat_natCast, List.take_length] at ht
      exact ⟨_, rfl, q H1 o xs sm no ho ht⟩
end
abbrev s_bites : Stmt := topS 11
abbrev N_bites : List Str := ["bar"]
theorem sc_bites : FnScope N_bites ["bar"] (defScope s_bites) := ⟨rfl, rfl, rfl, by decide +kernel, rfl, by decide +kernel, by decide +kernel⟩
section
variable {P : Program} {w : World} {K : PySem.W.Frag} {mg : Str → Option Value} {base : Heap}
/-- bites(bar), good bars -/
def sp_bites (K : PySem.W.Frag) : Sp := fun vs H Q _ => ∃ (a : Addr) (ns : List Int), vs = [.ref a] ∧ SqL K H a (ns.map V.int) ∧ IsBar 5 ns ∧
  ∀ H' p xs, Same H H' → H p = none → H' p = some (.lst xs) → TL H' xs ((bitesL ns).map pr) → Q (.ref p) H'
theorem ok_bites {f : Addr} {fd : FuncData} (F : Fun K "bites" "bites" s_bites f fd) (C_asked_bar : Cal P w K mg base CX0 2 "asked_bar" ["bar"] (sp_asked_bar K)) (C_bites_of : Cal P w K mg base CX0 1 "bites_of" ["bar"] (sp_bites_of K)) :
    FnOk P w K mg base CX0 3 f fd ["bar"] (sp_bites K) := by
  refine F.ok sc_bites (fun vs H Q E h => ?_) (fun cdv A outer s H vs Q E hr h => ?_)
  · obtain ⟨a, ns, rfl, _⟩ := h
    rfl
  · obtain ⟨a, ns, rfl, hS, hb, q⟩ := h
    refine ⟨_, (pss_cons (ps_expr (pe_c C_asked_bar hr (by decide) pass0 (pa_cons (pv 0) pa_nil)))
      (pss_one (ps_ret (pe_c C_bites_of hr (by decide) pass0 (pa_cons (pv 0) pa_nil))))), ?_⟩
    exact ⟨_, rfl, a, ns, rfl, hS, isBarB_iff.mpr hb, _, rfl, a, ns, rfl, hS, hb, q⟩
end
abbrev s_behind : Stmt := topS 12
abbrev N_behind : List Str := ["bar", "row", "column", "found", "pieces"]
theorem sc_behind : FnScope N_behind ["bar", "row", "column"] (defScope s_behind) := ⟨rfl, rfl, rfl, by decide +kernel, rfl, by decide +kernel, by decide +kernel⟩
section
variable {P : Program} {w : World} {K : PySem.W.Frag} {mg : Str → Option Value} {base : Heap}
/-- behind(bar, row, column): a new list -/
def sp_behind (K : PySem.W.Frag) : Sp := fun vs H Q _ => ∃ (a : Addr) (ns : List Int) (r c : Nat), vs = [.ref a, .int (r : Nat), .int (c : Nat)] ∧ SqL K H a (ns.map V.int) ∧ IsBar 5 ns ∧ (r, c) ∈ bitesL ns ∧
  ∀ H' p, Same H H' → H p = none → H' p = some (.lst ((behindL ns r c).map V.int)) → Q (.ref p) H'
theorem cut_take (xs : List V) (r : Nat) : cutV xs none (some (r : Int)) = xs.take r := by
  unfold cutV
  rw [HT.sIx_none, HT.sIx_nat, List.drop_zero, Nat.sub_zero]
  by_cases h : r ≤ xs.length
  · rw [Nat.min_eq_left h]
  · rw [Nat.min_eq_right (by omega), List.take_length, List.take_of_length_le (by omega)]
theorem cut_drop (xs : List V) (r : Nat) : cutV xs (some (r : Int)) none = xs.drop r := by
  unfold cutV
  rw [HT.sIx_none, HT.sIx_nat]
  by_cases h : r ≤ xs.length
  · rw [Nat.min_eq_left h, List.take_of_length_le (by rw [List.length_drop]; omega)]
  · rw [Nat.min_eq_right (by omega), List.drop_eq_nil_of_le (Nat.le_refl _), List.drop_eq_nil_of_le (by omega), List.take_nil]
theorem ok_behind {f : Addr} {fd : FuncData} (F : Fun K "behind" "behind" s_behind f fd) (m_list : mg "list" = none) (m_min : mg "min" = none) :
    FnOk P w K mg base CX0 1 f fd ["bar", "row", "column"] (sp_behind K) := by
  refine F.ok sc_behind (fun vs H Q E h => ?_) (fun cdv A outer s H vs Q E hr h => ?_)
  · obtain ⟨a, ns, r, c, rfl, _⟩ := h
    rfl
  · obtain ⟨a, ns, r, c, rfl, hS, ib, hm, q⟩ := h
    have hl5 : ns.length ≤ 5 := by have := ib.le; omega
    refine ⟨_, (pss_cons (ps_set (i := 3) sc_behind.nd rfl (.inl rfl) (pe_callTy (listK (K := K)) (by rfl) m_list (by decide +kernel) (pa_cons (pe_slice (slK (K := K)) (pv 0) po_none (po_some (pv 1))) pa_nil)))
      (pss_cons (ps_if (pt_cmpR op_gt (pv 2) pe_int (nomark _))
        (pss_one (ps_expr (pe_bmK (K := K) PySem.F.plainAttrs_list PySem.F.slot_list_extend PySem.F.type_list_extend mt_extend (pv 3) (pa_cons (pe_lc (own := [("pieces", 4)]) (g := gName 4) (tt := tYes) rfl sc_behind.nd (pi_listK (K := K) (pe_slice (slK (K := K)) (pv 0) (po_some (pv 1)) po_none)) (blkOk_by (N := N_behind) (sc := defScope s_behind) (by decide +kernel)) (fun _ _ _ _ _ => (pg_name (i := 4) sc_behind.nd rfl (.inl rfl))) (fun _ _ _ _ _ => pts_nil) (fun _ _ _ _ _ => (pe_callB (call_min2 rfl) (by rfl) m_min (by decide +kernel) (pa_cons (pv 4) (pa_cons (pv 2) pa_nil))))) pa_nil))))
        pss_nil)
      (pss_one (ps_ret (pv 3))))), ?_⟩
    refine ⟨_, rfl, _, rfl, (r : Int), rfl, a, _, rfl, hS, fun p1 n1 => ?_⟩
    rw [cut_take, ← List.map_take]
    refine ⟨p1, _, rfl, .inl (SqL.of upd_same), fun o no => ?_⟩
    have s1 : Same H (upd (upd H p1 (.lst ((ns.take r).map V.int))) o (.lst ((ns.take r).map V.int))) := sThen (sNew n1) no
    have ho : upd (upd H p1 (.lst ((ns.take r).map V.int))) o (.lst ((ns.take r).map V.int)) o = some (.lst ((ns.take r).map V.int)) := upd_same
    have no0 : H o = none := by
      cases e : H o with
      | none => rfl
      | some u =>
        have := sNew (o := .lst ((ns.take r).map V.int)) n1 o u e
        rw [no] at this
        cases this
    generalize upd (upd H p1 (.lst ((ns.take r).map V.int))) o (.lst ((ns.take r).map V.int)) = H1 at s1 ho ⊢
    refine ⟨_, rfl, _, _, rfl, rfl, _, rfl, ite2 (fun z => ?_) (fun z => ?_)⟩
    · have z' := of_decide_eq_true z
      refine ⟨_, rfl, .inl ⟨rfl, _, SqL.of ho⟩, ?_⟩
      refine ⟨_, rfl, _, rfl, (r : Int), rfl, a, _, rfl, s1.seq hS, fun p2 n2 => ?_⟩
      rw [cut_drop, ← List.map_drop]
      have s2 : Same H1 (upd H1 p2 (.lst ((ns.drop r).map V.int))) := sNew n2
      have h2 : upd H1 p2 (.lst ((ns.drop r).map V.int)) p2 = some (.lst ((ns.drop r).map V.int)) := upd_same
      generalize upd H1 p2 (.lst ((ns.drop r).map V.int)) = H2 at s2 h2 ⊢
      have ho2 := s2 _ _ ho
      refine ⟨p2, rfl, ⟨_, SqL.of h2⟩, fun D nD => ?_⟩
      refine lc_list (K := K) (a := p2) (xs := (ns.drop r).map V.int) (fun j H' => Same H2 H' ∧ H' D = some (.lst ((((ns.drop r).take j).map fun x => min x (c : Int)).map V.int))) ⟨sNew nD, upd_same⟩ (fun _ _ _ h => SqL.of (h.1 _ _ h2)) ?_ ?_
      · rintro j y H3 hj ⟨s3, hD⟩
        obtain ⟨u, hu, rfl⟩ := map_get hj
        refine ⟨rfl, yesT ?_⟩
        refine ⟨_, rfl, _, rfl, _, _, rfl, _, hD, ?_, sPut s3 nD, ?_⟩
        · rw [List.length_map, List.length_map, List.length_take, List.length_drop]
          exact small' (by omega)
        · rw [upd_same, take_more hu, List.map_append, List.map_append]
          have e : (if (c : Int) < u then (c : Int) else u) = min u (c : Int) := by
            by_cases z : (c : Int) < u
            · rw [if_pos z]; omega
            · rw [if_neg z]; omega
          show some (HO.lst (_ ++ [V.int (if (c : Int) < u then (c : Int) else u)])) = _
          rw [e]
          all_goals rfl
      · rintro H3 ⟨s3, hD⟩
        rw [List.length_map, List.take_length] at hD
        have ho3 := s3 _ _ ho2
        refine ⟨o, D, _, _, rfl, rfl, ho3, hD, ?_, ?_⟩
        · rw [List.length_map, List.length_map, List.length_map, List.length_take, List.length_drop]
          exact small (by omega)
        · refine ⟨_, rfl, q _ o (sPut ((s1.trans s2).trans s3) no0) no0 ?_⟩
          rw [upd_same]
          unfold behindL
          rw [if_pos (by omega), List.map_append]
    · have z' := of_decide_eq_false (Bool.eq_false_iff.mpr z)
      refine ⟨_, rfl, q H1 o s1 no0 ?_⟩
      unfold behindL
      rw [if_neg (by omega), List.append_nil]
      exact ho
end
abbrev s_added : Stmt := topS 14
abbrev N_added : List Str := ["one", "other", "total", "figure"]
theorem sc_added : FnScope N_added ["one", "other"] (defScope s_added) := ⟨rfl, rfl, rfl, by decide +kernel, rfl, by decide +kernel, by decide +kernel⟩
section
variable {P : Program} {w : World} {K : PySem.W.Frag} {mg : Str → Option Value} {base : Heap}
/-- added(one, other) -/
def sp_added (K : PySem.W.Frag) : Sp := fun vs H Q _ => ∃ (x y : Nat), vs = [.int (x : Nat), .int (y : Nat)] ∧ Q (.int ((x ^^^ y : Nat) : Int)) H
theorem ok_added {f : Addr} {fd : FuncData} (F : Fun K "added" "added" s_added f fd) : FnOk P w K mg base CX0 1 f fd ["one", "other"] (sp_added K) := by
  refine F.ok sc_added (fun vs H Q E h => ?_) (fun cdv A outer s H vs Q E hr h => ?_)
  · obtain ⟨x, y, rfl, _⟩ := h
    rfl
  · obtain ⟨x0, y0, rfl, q⟩ := h
    refine ⟨_, (pss_cons (ps_set (i := 2) sc_added.nd rfl (.inl rfl) pe_int)
      (pss_cons (ps_set (i := 3) sc_added.nd rfl (.inl rfl) pe_int)
      (pss_cons (ps_while PassesOwn.never (PW.pt (pw_or (pt_cmpR op_gt (pv 0) pe_int (nomark _)) (pw_or1 (pt_cmpR op_gt (pv 1) pe_int (nomark _)))))
        (C8.pss_cut (ps_if (pt_cmpR op_ne (pe_op op_mod (pv 0) pe_int) (pe_op op_mod (pv 1) pe_int) (nomark _))
          (pss_one (ps_set (i := 2) sc_added.nd rfl (.inl rfl) (pe_op op_add (pv 2) (pv 3))))
          pss_nil)
        (pss_cons (ps_set (i := 0) sc_added.nd rfl (.inl rfl) (pe_op op_fdiv (pv 0) pe_int))
        (pss_cons (ps_set (i := 1) sc_added.nd rfl (.inl rfl) (pe_op op_fdiv (pv 1) pe_int))
        (pss_one (ps_set (i := 3) sc_added.nd rfl (.inl rfl) (pe_op op_mul pe_int (pv 3))))))))
      (pss_one (ps_ret (pv 2)))))), ?_⟩
    refine ⟨fun m σ H' => ∃ x y t f : Nat, σ = [some (.int (x : Nat)), some (.int (y : Nat)), some (.int (t : Nat)), some (.int (f : Nat))] ∧ H' = H ∧ t + f * (x ^^^ y) = x0 ^^^ y0 ∧ m = x + y, ⟨x0 + y0, x0, y0, 0, 1, rfl, rfl, by omega, rfl⟩, ?_⟩
    rintro m σ H1 ⟨x, y, t, f, rfl, rfl, e, rfl⟩
    have hx2 : (x : Int) % 2 = ((x % 2 : Nat) : Int) := by omega
    have hy2 : (y : Int) % 2 = ((y % 2 : Nat) : Int) := by omega
    have hxd : (x : Int) / 2 = ((x / 2 : Nat) : Int) := by omega
    have hyd : (y : Int) / 2 = ((y / 2 : Nat) : Int) := by omega
    have next : ∀ t' : Nat, t' = t + (if x % 2 = y % 2 then 0 else f) → t' + 2 * f * (x / 2 ^^^ y / 2) = x0 ^^^ y0 := fun t' et => by
      rw [← e, et, xor_step x y, Nat.mul_add, Nat.mul_comm 2 f, Nat.mul_assoc]
      split
      · rw [Nat.mul_zero]; omega
      · rw [Nat.mul_one]; omega
    -- a turn, whichever figure is left
    have turn : 0 < x + y → ∀ (m' : Nat), m' = x + y → ∃ N : L2.St → Hp → Prop, (∀ (σ' : L2.St) (H' : Hp), N σ' H' → ∃ k, k < m' ∧ ∃ x y t f : Nat, σ' = [some (.int (x : Nat)), some (.int (y : Nat)), some (.int (t : Nat)), some (.int (f : Nat))] ∧ H' = H1 ∧ t + f * (x ^^^ y) = x0 ^^^ y0 ∧ k = x + y) ∧
        ∀ t' : Nat, t' = t + (if x % 2 = y % 2 then 0 else f) → N [some (.int ((x : Int) / 2)), some (.int ((y : Int) / 2)), some (.int (t' : Nat)), some (.int (2 * (f : Int)))] H1 := fun hpos m' em => by
      refine ⟨fun σ' H' => ∃ x' y' t f : Nat, σ' = [some (.int (x' : Nat)), some (.int (y' : Nat)), some (.int (t : Nat)), some (.int (f : Nat))] ∧ H' = H1 ∧ t + f * (x' ^^^ y') = x0 ^^^ y0 ∧ x' + y' < x + y, ?_, fun t' et => ?_⟩
      · rintro σ' H' ⟨x', y', t', f', h1, h2, h3, h4⟩
        exact ⟨x' + y', by omega, x', y', t', f', h1, h2, h3, rfl⟩
      · refine ⟨x / 2, y / 2, t', 2 * f, ?_, rfl, next t' et, by omega⟩
        rw [hxd, hyd]
        all_goals rfl
    have cutS : ∀ (σ' : L2.St) (H' : Hp), σ' = [some (V.int (x : Nat)), some (V.int (y : Nat)), some (V.int (t : Nat)), some (V.int (f : Nat))] → H' = H1 → ∀ (D : Ends), (∀ t' : Nat, t' = t + (if x % 2 = y % 2 then 0 else f) → D.nx [some (.int (x : Nat)), some (.int (y : Nat)), some (.int (t' : Nat)), some (.int (f : Nat))] H1) →
        (tIfS (tTest (tOp rNe (tOp (rI (fun _ j => 0 < j) fun i j => V.int (i % j)) (tVar 0) (tC (V.int 2))) (tOp (rI (fun _ j => 0 < j) fun i j => V.int (i % j)) (tVar 1) (tC (V.int 2))))) (tAsg (tOp (rI0 fun i j => V.int (i + j)) (tVar 2) (tVar 3)) (gName 2)) tNext) D σ' H' := by
      rintro σ' H' rfl rfl D hD
      refine ⟨_, rfl, _, _, rfl, rfl, (by show (0 : Int) < 2; decide), _, rfl, _, _, rfl, rfl, (by show (0 : Int) < 2; decide), rfl, _, rfl, n2_ (fun c => ?_) (fun c => ?_)⟩
      · have c' : ¬ x % 2 = y % 2 := fun z => c (by show V.int ((x : Int) % 2) = V.int ((y : Int) % 2); rw [hx2, hy2, z])
        exact ⟨_, rfl, _, rfl, _, _, rfl, rfl, hD (t + f) (by rw [if_neg c'])⟩
      · have c' : x % 2 = y % 2 := by have := int_eq c; omega
        exact hD t (by rw [if_pos c']; rfl)
    by_cases hx : 0 < x
    · obtain ⟨N, hN, hT⟩ := turn (by omega) _ rfl
      refine ⟨_, rfl, _, _, rfl, rfl, _, rfl, dT_ (by omega) (iteT ⟨N, hN, fun σ' H' => ∃ t' : Nat, σ' = [some (.int (x : Nat)), some (.int (y : Nat)), some (.int (t' : Nat)), some (.int (f : Nat))] ∧ H' = H1 ∧ t' = t + (if x % 2 = y % 2 then 0 else f), cutS _ _ rfl rfl _ (fun t' et => ⟨t', rfl, rfl, et⟩), ?_⟩)⟩
      rintro σ' H' ⟨t', rfl, rfl, et⟩
      exact ⟨_, rfl, _, _, rfl, rfl, ⟨by decide, by decide⟩, _, rfl, _, _, rfl, rfl, ⟨by decide, by decide⟩, _, rfl, _, _, rfl, rfl, .inl ⟨by decide, by decide⟩, hT t' et⟩
    · refine ⟨_, rfl, _, _, rfl, rfl, _, rfl, dF_ (by omega) ?_⟩
      by_cases hy : 0 < y
      · obtain ⟨N, hN, hT⟩ := turn (by omega) _ rfl
        refine ⟨_, rfl, _, _, rfl, rfl, _, rfl, dT_ (by omega) ⟨N, hN, fun σ' H' => ∃ t' : Nat, σ' = [some (.int (x : Nat)), some (.int (y : Nat)), some (.int (t' : Nat)), some (.int (f : Nat))] ∧ H' = H1 ∧ t' = t + (if x % 2 = y % 2 then 0 else f), cutS _ _ rfl rfl _ (fun t' et => ⟨t', rfl, rfl, et⟩), ?_⟩⟩
        rintro σ' H' ⟨t', rfl, rfl, et⟩
        exact ⟨_, rfl, _, _, rfl, rfl, ⟨by decide, by decide⟩, _, rfl, _, _, rfl, rfl, ⟨by decide, by decide⟩, _, rfl, _, _, rfl, rfl, .inl ⟨by decide, by decide⟩, hT t' et⟩
      · refine ⟨_, rfl, _, _, rfl, rfl, _, rfl, dF_ (by omega) ⟨_, rfl, ?_⟩⟩
        have h0 : x = 0 := by omega
        have h1 : y = 0 := by omega
        subst h0 h1
        have e' : t = x0 ^^^ y0 := by
          rw [← e]
          show t = t + f * 0
          omega
        rw [← e'] at q
        exact q
end
abbrev s_worth_of : Stmt := topS 15
abbrev N_worth_of : List Str := ["bar", "known", "key", "seen", "row", "column", "least"]
theorem sc_worth_of : FnScope N_worth_of ["bar", "known"] (defScope s_worth_of) := ⟨rfl, rfl, rfl, by decide +kernel, rfl, by decide +kernel, by decide +kernel⟩
section
variable {P : Program} {w : World} {K : PySem.W.Frag} {mg : Str → Option Value} {base : Heap}
/-- worth_of(bar, known), of bars of at most n pieces -/
def sp_worth_of (K : PySem.W.Frag) (n : Nat) : Sp := fun vs H Q _ => ∃ (a d : Addr) (ns : List Int) (kvs : List (List Key × V)), vs = [.ref a, .ref d] ∧ SqL K H a (ns.map V.int) ∧ IsBar 5 ns ∧ pieces ns ≤ n ∧ H d = some (.dT kvs) ∧ Known kvs ∧
  ∀ H' kvs', But d H H' → H' d = some (.dT kvs') → Known kvs' → Q (.int (worthL ns : Nat)) H'
theorem ok_worth_of_step {n : Nat} {f : Addr} {fd : FuncData} (F : Fun K "worth_of" "worth_of" s_worth_of f fd) (m_tuple : mg "tuple" = none) (C_bites_of : Cal P w K mg base CX0 1 "bites_of" ["bar"] (sp_bites_of K)) (C_behind : Cal P w K mg base CX0 1 "behind" ["bar", "row", "column"] (sp_behind K))
    (C_worth_of : Cal P w K mg base CX0 (n + 2) "worth_of" ["bar", "known"] (sp_worth_of K n)) : FnOk P w K mg base CX0 (n + 1 + 2) f fd ["bar", "known"] (sp_worth_of K (n + 1)) := by
  refine F.ok sc_worth_of (fun vs H Q E h => ?_) (fun cdv A outer s H vs Q E hr h => ?_)
  · obtain ⟨a, d, ns, kvs, rfl, _⟩ := h
    rfl
  · obtain ⟨a, d, ns, kvs, rfl, hS, ib, hp, hd, hk, q⟩ := h
    have hu := hu_of hr
    refine ⟨_, (pss_cons (ps_set (i := 2) sc_worth_of.nd rfl (.inl rfl) (pe_callTy (tupleK (K := K)) (by rfl) m_tuple (by decide +kernel) (pa_cons (pv 0) pa_nil)))
      (pss_cons (ps_if (pt_cmp (pc_dnotin hu (pv 2) (pv 1)))
        (pss_cons (ps_set (i := 3) sc_worth_of.nd rfl (.inl rfl) pe_dnewK)
        (pss_cons (ps_for PassesOwn.never rfl (pi_listK (K := K) (pe_c C_bites_of hr (by omega) pass0 (pa_cons (pv 0) pa_nil))) (pg_tupK (K := K) rfl (pgs_cons (pg_name (i := 4) sc_worth_of.nd rfl (.inl rfl)) (pgs_cons (pg_name (i := 5) sc_worth_of.nd rfl (.inl rfl)) pgs_nil)))
          (pss_one (ps_dput hu (pv 3) (pe_c C_worth_of hr (by omega) pass0 (pa_cons (pe_c C_behind hr (by omega) pass0 (pa_cons (pv 0) (pa_cons (pv 4) (pa_cons (pv 5) pa_nil)))) (pa_cons (pv 1) pa_nil))) pe_bl rfl)))
        (pss_cons (ps_set (i := 6) sc_worth_of.nd rfl (.inl rfl) pe_int)
        (pss_cons (ps_while PassesOwn.never (pt_cmp (pc_din hu (pv 6) (pv 3)))
          (pss_one (ps_set (i := 6) sc_worth_of.nd rfl (.inl rfl) (pe_op op_add (pv 6) pe_int))))
        (pss_one (ps_dput hu (pv 1) (pv 2) (pv 6) rfl))))))
        pss_nil)
      (pss_one (ps_ret (pe_dget hu (pv 1) (pv 2) (fun _ _ => rfl)))))), ?_⟩
    refine ⟨_, rfl, a, _, rfl, .inl ⟨hS, fun k nk => ?_⟩⟩
    have s1 : Same H (upd H k (.tup (ns.map V.int))) := sNew nk
    have hk1 : upd H k (.tup (ns.map V.int)) k = some (.tup ((keyOf ns).map kV)) := by rw [upd_same, keyOf_kV]
    generalize upd H k (.tup (ns.map V.int)) = H1 at s1 hk1 ⊢
    have hd1 := s1 _ _ hd
    refine ⟨_, rfl, _, rfl, d, _, rfl, DGet.t hd1 hk1, _, rfl, ?_⟩
    cases ev : valV kvs (keyOf ns) with
    | some v =>
      have e := hk.get ev
      subst e
      refine iteF ?_
      have g := DGet.t hd1 hk1
      rw [ev] at g
      exact ⟨_, rfl, _, rfl, d, _, rfl, g, q H1 kvs (But.same s1) hd1 hk⟩
    | none =>
      refine iteT ?_
      intro s ns2
      have s2 : Same H1 (upd H1 s (.dK [])) := sNew ns2
      have hs2 : upd H1 s (.dK []) s = some (.dK []) := upd_same
      generalize upd H1 s (.dK []) = H2 at s2 hs2 ⊢
      refine ⟨_, rfl, a, ns, rfl, (s1.trans s2).seq hS, ib, fun H3 p xs s3 np hp3 tp => ?_⟩
      have sH : Same H H3 := (s1.trans s2).trans s3
      have hd3 := sH _ _ hd
      have hk3 := s3 _ _ (s2 _ _ hk1)
      have hs3 := s3 _ _ hs2
      have hsn : H s = none := s1.free ns2
      have pd : p ≠ d := ne_of hp3 hd3 (by intro z; cases z)
      have ps : p ≠ s := ne_of hp3 hs3 (by intro z; cases z)
      have kd : k ≠ d := ne_of hk3 hd3 (by intro z; cases z)
      have ks : k ≠ s := ne_of hk3 hs3 (by intro z; cases z)
      have sd : s ≠ d := ne_of hs3 hd3 (by intro z; cases z)
      have elen : xs.length = (bitesL ns).length := by rw [tp.length, List.length_map]
      have el25 := bitesL_len ib
      refine ⟨p, rfl, ⟨_, SqL.of hp3⟩, for_list (K := K) (a := p) (xs := xs) (fun i σ H' => ∃ (y4 y5 : Option V) (kvs1 : List (List Key × V)) (kv2 : List (Key × V)), σ = [some (.ref a), some (.ref d), some (.ref k), some (.ref s), y4, y5, none] ∧
          (∀ b o, b ≠ d → b ≠ s → H3 b = some o → H' b = some o) ∧ H' d = some (.dT kvs1) ∧ Known kvs1 ∧ (∀ b, valV kvs1 (keyOf b) = none ∨ True) ∧ H' s = some (.dK kv2) ∧ Seen kv2 (((bitesL ns).take i).map (wB ns)))
        ⟨none, none, kvs, [], rfl, fun _ _ _ _ h => h, hd3, hk, fun _ => .inr trivial, hs3, Seen.nil⟩ (fun i σ H' _ ⟨_, _, _, _, _, kp, _⟩ => SqL.of (kp _ _ pd ps hp3)) ?_ ?_⟩
      · rintro i x σ H4 hi ⟨y4, y5, kvs1, kv2, rfl, kp, hd4, hk4, _, hs4, hse⟩
        obtain ⟨t, b, hb, rfl, ht⟩ := tp.bite hi
        have hbm : b ∈ bitesL ns := List.mem_of_getElem? hb
        have td : t ≠ d := ne_of ht hd3 (by intro z; cases z)
        have ts : t ≠ s := ne_of ht hs3 (by intro z; cases z)
        have ht4 := kp _ _ td ts ht
        have hA : SqL K H4 a (ns.map V.int) := by
          rcases hS with (h | ⟨o, h⟩) | h
          · exact .inl (.inl (kp _ _ (ne_of h hd (by intro z; cases z)) (ne_of_none h hsn) (sH _ _ h)))
          · exact .inl (.inr ⟨o, kp _ _ (ne_of h hd (by intro z; cases z)) (ne_of_none h hsn) (sH _ _ h)⟩)
          · exact .inr h
        refine ⟨t, _, rfl, SqT.of ht4, rfl, _, _, rfl, _, _, rfl, rfl, ?_⟩
        refine ⟨_, rfl, _, rfl, _, rfl, _, rfl, a, ns, b.1, b.2, rfl, hA, ib, hbm, fun H5 g s5 ng hg => ?_⟩
        have hpl := pieces_less hbm
        refine ⟨_, rfl, g, d, _, kvs1, rfl, SqL.of hg, isBar_behind ib hbm, by omega, s5 _ _ hd4, hk4, fun H6 kvs6 b6 hd6 hk6 => ?_⟩
        have hs6 := b6 _ _ sd (s5 _ _ hs4)
        have hlen2 := hse.len
        rw [List.length_map, List.length_take] at hlen2
        refine ⟨s, _, rfl, DPut.k (k := Sum.inl (wB ns b : Nat)) hs6 (small' (by omega)), ?_⟩
        refine ⟨_, _, kvs6, _, rfl, fun c o n1 n2 h => ?_, ?_, hk6, fun _ => .inr trivial, upd_same, ?_⟩
        · rw [upd_ne n2]
          exact b6 _ _ n1 (s5 _ _ (kp _ _ n1 n2 h))
        · rw [upd_ne (Ne.symm sd)]
          exact hd6
        · rw [take_more hb, List.map_append]
          exact hse.put (wB ns b) _
      · rintro σ H4 ⟨y4, y5, kvs1, kv2, rfl, kp, hd4, hk4, _, hs4, hse⟩
        rw [elen, List.take_length] at hse
        have hw := mex_spec ((bitesL ns).map (wB ns))
        rw [← worth_mex] at hw
        have hk4' := kp _ _ kd ks hk3
        refine ⟨fun m σ H' => ∃ l : Nat, σ = [some (.ref a), some (.ref d), some (.ref k), some (.ref s), y4, y5, some (.int (l : Nat))] ∧ H' = H4 ∧ l + m = worthL ns, ⟨worthL ns, 0, rfl, rfl, Nat.zero_add _⟩, ?_⟩
        rintro m σ H5 ⟨l, rfl, rfl, em⟩
        refine ⟨_, rfl, _, rfl, s, _, rfl, DGet.k (k := Sum.inl (l : Int)) hs4, _, rfl, ?_⟩
        rw [hse.is l]
        by_cases hm : m = 0
        · have e : l = worthL ns := by omega
          subst e
          rw [decide_eq_false hw.1]
          refine iteF ?_
          -- known[key] = least
          have hb4 : But d H H5 := fun b o n h => kp b o n (ne_of_none h hsn) (sH _ _ h)
          cases ev1 : valV kvs1 (keyOf ns) with
          | none =>
            refine ⟨_, rfl, _, rfl, _, rfl, d, _, rfl, DPut.t hd4 hk4' (small' (by have := hk4.len; omega)), ?_⟩
            have hd7 : upd H5 d (.dT (putK kvs1 (keyOf ns) (.int (worthL ns : Nat)))) d = some (.dT (putK kvs1 (keyOf ns) (.int (worthL ns : Nat)))) := upd_same
            have hk7 : upd H5 d (.dT (putK kvs1 (keyOf ns) (.int (worthL ns : Nat)))) k = some (.tup ((keyOf ns).map kV)) := by rw [upd_ne kd]; exact hk4'
            have g := DGet.t hd7 hk7
            rw [valV_put, if_pos rfl] at g
            exact ⟨_, rfl, _, rfl, d, _, rfl, g, q _ _ (hb4.trans But.at) hd7 (hk4.put ib ev1)⟩
          | some v =>
            have e := hk4.get ev1
            subst e
            refine ⟨_, rfl, _, rfl, _, rfl, d, _, rfl, DPut.t hd4 hk4' (small' (by have := hk4.len; omega)), ?_⟩
            have hd7 : upd H5 d (.dT (putK kvs1 (keyOf ns) (.int (worthL ns : Nat)))) d = some (.dT (putK kvs1 (keyOf ns) (.int (worthL ns : Nat)))) := upd_same
            have hk7 : upd H5 d (.dT (putK kvs1 (keyOf ns) (.int (worthL ns : Nat)))) k = some (.tup ((keyOf ns).map kV)) := by rw [upd_ne kd]; exact hk4'
            have g := DGet.t hd7 hk7
            rw [valV_put, if_pos rfl] at g
            exact ⟨_, rfl, _, rfl, d, _, rfl, g, q _ _ (hb4.trans But.at) hd7 (hk4.again ev1)⟩
        · rw [decide_eq_true (hw.2 l (by omega))]
          refine iteT ⟨fun σ' H' => ∃ l : Nat, σ' = [some (.ref a), some (.ref d), some (.ref k), some (.ref s), y4, y5, some (.int (l : Nat))] ∧ H' = H5 ∧ l + (m - 1) = worthL ns, fun σ' H' h => ⟨m - 1, by omega, h⟩, ?_⟩
          exact ⟨_, rfl, _, _, rfl, rfl, l + 1, rfl, rfl, by omega⟩
theorem ok_worth_of {f : Addr} {fd : FuncData} (F : Fun K "worth_of" "worth_of" s_worth_of f fd) (bd : Binds K fd ["bar", "known"] []) (gm : mg "worth_of" = some (.ref f)) (m_tuple : mg "tuple" = none) (C_bites_of : Cal P w K mg base CX0 1 "bites_of" ["bar"] (sp_bites_of K))
    (C_behind : Cal P w K mg base CX0 1 "behind" ["bar", "row", "column"] (sp_behind K)) : ∀ n, Cal P w K mg base CX0 (n + 2) "worth_of" ["bar", "known"] (sp_worth_of K n)
  | 0 => by
    have no : ∀ vs H Q E, ¬ sp_worth_of K 0 vs H Q E := fun vs H Q E h => by
      obtain ⟨_, _, ns, _, _, _, ib, hp, _⟩ := h
      have := pieces_pos ib
      omega
    exact ⟨f, fd, ⟨fun vs H Q E h => absurd h (no vs H Q E), fun A outer s H args us vs Q E _ _ _ _ h => absurd h (no vs H Q E)⟩, gm, F.kp, bd⟩
  | n + 1 => ⟨f, fd, ok_worth_of_step F m_tuple C_bites_of C_behind (ok_worth_of F bd gm m_tuple C_bites_of C_behind n), gm, F.kp, bd⟩
end
abbrev s_asked_table : Stmt := topS 18
abbrev N_asked_table : List Str := ["table", "bar"]
theorem sc_asked_table : FnScope N_asked_table ["table"] (defScope s_asked_table) := ⟨rfl, rfl, rfl, by decide +kernel, rfl, by decide +kernel, by decide +kernel⟩
section
variable {P : Program} {w : World} {K : PySem.W.Frag} {mg : Str → Option Value} {base : Heap}
/-- asked_table(table), good tables -/
def sp_asked_table (K : PySem.W.Frag) : Sp := fun vs H Q _ => ∃ (T : Addr) (xs : List V) (ds : List (List Int)), vs = [.ref T] ∧ SqL K H T xs ∧ LL H xs ds ∧ IsTable ds ∧ Q .non H
theorem ok_asked_table {f : Addr} {fd : FuncData} (F : Fun K "asked_table" "asked_table" s_asked_table f fd) (m_len : mg "len" = none) {t1 : Tok} (g_MOST : mg "MOST" = some (.int 3 t1)) (C_asked_bar : Cal P w K mg base CX0 2 "asked_bar" ["bar"] (sp_asked_bar K)) :
    FnOk P w K mg base CX0 3 f fd ["table"] (sp_asked_table K) := by
  refine F.ok sc_asked_table (fun vs H Q E h => ?_) (fun cdv A outer s H vs Q E hr h => ?_)
  · obtain ⟨T, xs, ds, rfl, _⟩ := h
    rfl
  · obtain ⟨T, xs, ds, rfl, hT, ll, it, q⟩ := h
    have el := ll.length
    have l3 := it.le
    refine ⟨_, (pss_cons (ps_if (pt_cmpR op_gt (pe_callB (lenK (K := K)) (by rfl) m_len PySem.boot_len (pa_cons (pv 0) pa_nil)) (pe_glob (v := .int 3) (by rfl) g_MOST ⟨_, rfl⟩) (nomark _))
        (pss_one ps_never)
        pss_nil)
      (pss_one (ps_for PassesOwn.never rfl (pi_listK (K := K) (pv 0)) (pg_name (i := 1) sc_asked_table.nd rfl (.inl rfl))
        (pss_one (ps_expr (pe_c C_asked_bar hr (by decide) pass0 (pa_cons (pv 1) pa_nil))))))), ?_⟩
    refine ⟨_, rfl, T, _, rfl, .inl hT, _, _, rfl, rfl, _, rfl, dF_ (by show ¬ (3 : Int) < ((_ : Nat) : Int); omega) ?_⟩
    refine ⟨_, rfl, T, rfl, ⟨_, hT⟩, for_list (K := K) (a := T) (xs := xs) (fun i σ H' => ∃ y : Option V, σ = [some (.ref T), y] ∧ H' = H) ⟨none, rfl, rfl⟩ (fun i σ H' _ ⟨_, _, e⟩ => e ▸ hT) ?_ ?_⟩
    · rintro i x σ H1 hi ⟨y, rfl, rfl⟩
      obtain ⟨t, d, hd, rfl, ht⟩ := ll.at hi
      exact ⟨_, rfl, t, d, rfl, SqL.of ht, isBarB_iff.mpr (it.is d (List.mem_of_getElem? hd)), _, rfl, rfl⟩
    · rintro σ H1 ⟨y, rfl, rfl⟩
      exact q
end
abbrev s_together_of : Stmt := topS 19
abbrev N_together_of : List Str := ["table", "known", "total", "bar"]
theorem sc_together_of : FnScope N_together_of ["table", "known"] (defScope s_together_of) := ⟨rfl, rfl, rfl, by decide +kernel, rfl, by decide +kernel, by decide +kernel⟩
section
variable {P : Program} {w : World} {K : PySem.W.Frag} {mg : Str → Option Value} {base : Heap}
/-- together_of(table, known) -/
def sp_together_of (K : PySem.W.Frag) : Sp := fun vs H Q _ => ∃ (T d : Addr) (xs : List V) (ds : List (List Int)) (kvs : List (List Key × V)), vs = [.ref T, .ref d] ∧ H T = some (.lst xs) ∧ LL H xs ds ∧ IsTable ds ∧ H d = some (.dT kvs) ∧ Known kvs ∧
  ∀ H' kvs', But d H H' → H' d = some (.dT kvs') → Known kvs' → Q (.int (xorL (worthsL ds) : Nat)) H'
theorem ok_together_of {f : Addr} {fd : FuncData} (F : Fun K "together_of" "together_of" s_together_of f fd) (C_added : Cal P w K mg base CX0 1 "added" ["one", "other"] (sp_added K)) (C_worth_of : ∀ n, Cal P w K mg base CX0 (n + 2) "worth_of" ["bar", "known"] (sp_worth_of K n)) :
    FnOk P w K mg base CX0 28 f fd ["table", "known"] (sp_together_of K) := by
  refine F.ok sc_together_of (fun vs H Q E h => ?_) (fun cdv A outer s H vs Q E hr h => ?_)
  · obtain ⟨T, d, xs, ds, kvs, rfl, _⟩ := h
    rfl
  · obtain ⟨T, d, xs, ds, kvs, rfl, hT, ll, it, hd, hk, q⟩ := h
    have el := ll.length
    have Td : T ≠ d := ne_of hT hd (by intro z; cases z)
    refine ⟨_, (pss_cons (ps_set (i := 2) sc_together_of.nd rfl (.inl rfl) pe_int)
      (pss_cons (ps_for PassesOwn.never rfl (pi_listK (K := K) (pv 0)) (pg_name (i := 3) sc_together_of.nd rfl (.inl rfl))
        (pss_one (ps_set (i := 2) sc_together_of.nd rfl (.inl rfl) (pe_c C_added hr (by decide) pass0 (pa_cons (pv 2) (pa_cons (pe_c (C_worth_of 25) hr (by decide) pass0 (pa_cons (pv 3) (pa_cons (pv 1) pa_nil))) pa_nil))))))
      (pss_one (ps_ret (pv 2))))), ?_⟩
    refine ⟨_, rfl, T, rfl, ⟨_, SqL.of hT⟩, for_list (K := K) (a := T) (xs := xs) (fun i σ H' => ∃ (y : Option V) (kvs1 : List (List Key × V)), σ = [some (.ref T), some (.ref d), some (.int (xorL (worthsL (ds.take i)) : Nat)), y] ∧ But d H H' ∧ H' d = some (.dT kvs1) ∧ Known kvs1)
      ⟨none, kvs, rfl, But.same (Same.refl _), hd, hk⟩ (fun i σ H' _ ⟨_, _, _, b, _⟩ => SqL.of (b _ _ Td hT)) ?_ ?_⟩
    · rintro i x σ H1 hi ⟨y, kvs1, rfl, b1, hd1, hk1⟩
      obtain ⟨t, e, he, rfl, ht⟩ := ll.at hi
      have td : t ≠ d := ne_of ht hd (by intro z; cases z)
      have ib := it.is e (List.mem_of_getElem? he)
      refine ⟨_, rfl, _, rfl, _, rfl, t, d, e, kvs1, rfl, SqL.of (b1 _ _ td ht), ib, pieces_25 ib, hd1, hk1, fun H2 kvs2 b2 hd2 hk2 => ?_⟩
      refine ⟨_, _, rfl, ?_⟩
      refine ⟨some (.ref t), kvs2, ?_, b1.trans b2, hd2, hk2⟩
      unfold worthsL
      rw [take_more he, List.map_append]
      show _ = [_, _, some (V.int ((xorL (List.map worthL (ds.take i) ++ [worthL e]) : Nat) : Int)), _]
      rw [xorL_snoc]
      all_goals rfl
    · rintro σ H1 ⟨y, kvs1, rfl, b1, hd1, hk1⟩
      rw [el, List.take_length]
      exact ⟨_, rfl, q H1 kvs1 b1 hd1 hk1⟩
end
abbrev s_together : Stmt := topS 20
abbrev N_together : List Str := ["table"]
theorem sc_together : FnScope N_together ["table"] (defScope s_together) := ⟨rfl, rfl, rfl, by decide +kernel, rfl, by decide +kernel, by decide +kernel⟩
section
variable {P : Program} {w : World} {K : PySem.W.Frag} {mg : Str → Option Value} {base : Heap}
/-- together(table), good tables -/
def sp_together (K : PySem.W.Frag) : Sp := fun vs H Q _ => ∃ (T : Addr) (xs : List V) (ds : List (List Int)), vs = [.ref T] ∧ H T = some (.lst xs) ∧ LL H xs ds ∧ IsTable ds ∧ ∀ H', Same H H' → Q (.int (xorL (worthsL ds) : Nat)) H'
theorem ok_together {f : Addr} {fd : FuncData} (F : Fun K "together" "together" s_together f fd) (C_asked_table : Cal P w K mg base CX0 3 "asked_table" ["table"] (sp_asked_table K)) (C_together_of : Cal P w K mg base CX0 28 "together_of" ["table", "known"] (sp_together_of K)) :
    FnOk P w K mg base CX0 29 f fd ["table"] (sp_together K) := by
  refine F.ok sc_together (fun vs H Q E h => ?_) (fun cdv A outer s H vs Q E hr h => ?_)
  · obtain ⟨T, xs, ds, rfl, _⟩ := h
    rfl
  · obtain ⟨T, xs, ds, rfl, hT, ll, it, q⟩ := h
    refine ⟨_, (pss_cons (ps_expr (pe_c C_asked_table hr (by decide) pass0 (pa_cons (pv 0) pa_nil)))
      (pss_one (ps_ret (pe_c C_together_of hr (by decide) pass0 (pa_cons (pv 0) (pa_cons pe_dnewT pa_nil)))))), ?_⟩
    refine ⟨_, rfl, T, xs, ds, rfl, SqL.of hT, ll, it, _, rfl, fun d nd => ?_⟩
    refine ⟨T, d, xs, ds, [], rfl, sNew nd _ _ hT, ll.same (sNew nd), it, upd_same, Known.nil, fun H' kvs' b _ _ => ?_⟩
    exact q H' fun c o e => b c o (ne_of_none e nd) (by rw [upd_ne (ne_of_none e nd)]; exact e)
end
abbrev s_wins : Stmt := topS 21
abbrev N_wins : List Str := ["table"]
theorem sc_wins : FnScope N_wins ["table"] (defScope s_wins) := ⟨rfl, rfl, rfl, by decide +kernel, rfl, by decide +kernel, by decide +kernel⟩
section
variable {P : Program} {w : World} {K : PySem.W.Frag} {mg : Str → Option Value} {base : Heap}
/-- wins(table), good tables -/
def sp_wins (K : PySem.W.Frag) : Sp := fun vs H Q _ => ∃ (T : Addr) (xs : List V) (ds : List (List Int)), vs = [.ref T] ∧ H T = some (.lst xs) ∧ LL H xs ds ∧ IsTable ds ∧ ∀ H', Same H H' → Q (.bl (decide (xorL (worthsL ds) ≠ 0))) H'
theorem ok_wins {f : Addr} {fd : FuncData} (F : Fun K "wins" "wins" s_wins f fd) (C_together : Cal P w K mg base CX0 29 "together" ["table"] (sp_together K)) : FnOk P w K mg base CX0 30 f fd ["table"] (sp_wins K) := by
  refine F.ok sc_wins (fun vs H Q E h => ?_) (fun cdv A outer s H vs Q E hr h => ?_)
  · obtain ⟨T, xs, ds, rfl, _⟩ := h
    rfl
  · obtain ⟨T, xs, ds, rfl, hT, ll, it, q⟩ := h
    refine ⟨_, (pss_one (ps_ret (pe_cmpR op_gt (pe_c C_together hr (by decide) pass0 (pa_cons (pv 0) pa_nil)) pe_int (nomark _)))), ?_⟩
    refine ⟨_, rfl, T, xs, ds, rfl, hT, ll, it, fun H1 s1 => ⟨_, _, rfl, rfl, ?_⟩⟩
    have e : decide ((0 : Int) < ((xorL (worthsL ds) : Nat) : Int)) = decide (xorL (worthsL ds) ≠ 0) := by
      by_cases h : xorL (worthsL ds) = 0
      · rw [decide_eq_false (by omega), decide_eq_false (fun z => z h)]
      · rw [decide_eq_true (by omega), decide_eq_true h]
    have q1 := q H1 s1
    rw [← e] at q1
    exact q1
end
abbrev s_winning : Stmt := topS 22
abbrev N_winning : List Str := ["table", "known", "total", "found", "number", "bar", "aim", "row", "column"]
theorem sc_winning : FnScope N_winning ["table"] (defScope s_winning) := ⟨rfl, rfl, rfl, by decide +kernel, rfl, by decide +kernel, by decide +kernel⟩
section
variable {P : Program} {w : World} {K : PySem.W.Frag} {mg : Str → Option Value} {base : Heap}
/-- winning(table), good tables -/
def sp_winning (K : PySem.W.Frag) : Sp := fun vs H Q _ => ∃ (T : Addr) (xs : List V) (ds : List (List Int)), vs = [.ref T] ∧ H T = some (.lst xs) ∧ LL H xs ds ∧ IsTable ds ∧
  ∀ H' p ys, Same H H' → H p = none → H' p = some (.lst ys) → TL H' ys (winL ds) → Q (.ref p) H'
theorem ok_winning {f : Addr} {fd : FuncData} (F : Fun K "winning" "winning" s_winning f fd) (m_enumerate : mg "enumerate" = none) (C_asked_table : Cal P w K mg base CX0 3 "asked_table" ["table"] (sp_asked_table K)) (C_together_of : Cal P w K mg base CX0 28 "together_of" ["table", "known"] (sp_together_of K))
    (C_added : Cal P w K mg base CX0 1 "added" ["one", "other"] (sp_added K)) (C_worth_of : ∀ n, Cal P w K mg base CX0 (n + 2) "worth_of" ["bar", "known"] (sp_worth_of K n)) (C_bites_of : Cal P w K mg base CX0 1 "bites_of" ["bar"] (sp_bites_of K))
    (C_behind : Cal P w K mg base CX0 1 "behind" ["bar", "row", "column"] (sp_behind K)) : FnOk P w K mg base CX0 29 f fd ["table"] (sp_winning K) := by
  refine F.ok sc_winning (fun vs H Q E h => ?_) (fun cdv A outer s H vs Q E hr h => ?_)
  · obtain ⟨T, xs, ds, rfl, _⟩ := h
    rfl
  · obtain ⟨T, xs, ds, rfl, hT, ll, it, q⟩ := h
    have el := ll.length
    have l3 := it.le
    refine ⟨_, (pss_cons (ps_expr (pe_c C_asked_table hr (by decide) pass0 (pa_cons (pv 0) pa_nil)))
      (pss_cons (ps_set (i := 1) sc_winning.nd rfl (.inl rfl) pe_dnewT)
      (pss_cons (ps_set (i := 2) sc_winning.nd rfl (.inl rfl) (pe_c C_together_of hr (by decide) pass0 (pa_cons (pv 0) (pa_cons (pv 1) pa_nil))))
      (pss_cons (ps_set (i := 3) sc_winning.nd rfl (.inl rfl) (pe_lst pa_nil))
      (pss_cons (ps_for PassesOwn.never rfl (pi_enumK (K := K) (by rfl) m_enumerate (pa_cons (pv 0) pa_nil)) (pg_tupK (K := K) rfl (pgs_cons (pg_name (i := 4) sc_winning.nd rfl (.inl rfl)) (pgs_cons (pg_name (i := 5) sc_winning.nd rfl (.inl rfl)) pgs_nil)))
        (pss_cons (ps_set (i := 6) sc_winning.nd rfl (.inl rfl) (pe_c C_added hr (by decide) pass0 (pa_cons (pv 2) (pa_cons (pe_c (C_worth_of 25) hr (by decide) pass0 (pa_cons (pv 5) (pa_cons (pv 1) pa_nil))) pa_nil))))
        (pss_one (ps_for PassesOwn.never rfl (pi_listK (K := K) (pe_c C_bites_of hr (by decide) pass0 (pa_cons (pv 5) pa_nil))) (pg_tupK (K := K) rfl (pgs_cons (pg_name (i := 7) sc_winning.nd rfl (.inl rfl)) (pgs_cons (pg_name (i := 8) sc_winning.nd rfl (.inl rfl)) pgs_nil)))
          (pss_one (ps_if (pt_cmpR op_eq (pe_c (C_worth_of 25) hr (by decide) pass0 (pa_cons (pe_c C_behind hr (by decide) pass0 (pa_cons (pv 5) (pa_cons (pv 7) (pa_cons (pv 8) pa_nil)))) (pa_cons (pv 1) pa_nil))) (pv 6) (nomark _))
            (pss_one (ps_expr (pe_bmK (K := K) PySem.F.plainAttrs_list PySem.F.slot_list_append PySem.F.type_list_append mt_append (pv 3) (pa_cons (pe_tup (pa_cons (pv 4) (pa_cons (pv 7) (pa_cons (pv 8) pa_nil)))) pa_nil))))
            pss_nil))))))
      (pss_one (ps_ret (pv 3)))))))), ?_⟩
    refine ⟨_, rfl, T, xs, ds, rfl, SqL.of hT, ll, it, ?_⟩
    -- known = {}; total; found = []
    intro d nd
    have s1 : Same H (upd H d (.dT [])) := sNew nd
    have hd1 : upd H d (.dT []) d = some (.dT []) := upd_same
    generalize upd H d (.dT []) = H1 at s1 hd1 ⊢
    refine ⟨_, rfl, _, rfl, T, d, xs, ds, [], rfl, s1 _ _ hT, ll.same s1, it, hd1, Known.nil, fun H2 kvs2 b2 hd2 hk2 => ?_⟩
    have s2 : Same H H2 := fun c o e => b2 c o (ne_of_none e nd) (s1 c o e)
    refine ⟨Nat.zero_le _, fun g ng => ?_⟩
    have s3 : Same H2 (upd H2 g (.lst [])) := sNew ng
    have hg3 : upd H2 g (.lst []) g = some (.lst []) := upd_same
    have hd3 := s3 _ _ hd2
    generalize upd H2 g (.lst []) = H3 at s3 hg3 hd3 ⊢
    have gn : H g = none := s2.free ng
    have dg : d ≠ g := ne_of hd3 hg3 (by intro z; cases z)
    generalize htot : xorL (worthsL ds) = tot
    refine ⟨_, rfl, T, xs, rfl, SqL.of (s3 _ _ (s2 _ _ hT)), for_enum (K := K) (a := T) (xs := xs) (fun i σ H' => ∃ (y4 y5 y6 y7 y8 : Option V) (kvs : List (List Key × V)) (ys : List V), σ = [some (.ref T), some (.ref d), some (.int (tot : Nat)), some (.ref g), y4, y5, y6, y7, y8] ∧
        Same H H' ∧ H' d = some (.dT kvs) ∧ Known kvs ∧ H' g = some (.lst ys) ∧ TL H' ys (winFrom tot 0 (ds.take i)))
      ⟨none, none, none, none, none, kvs2, [], rfl, s2.trans s3, hd3, hk2, hg3, TL.nil⟩ (fun i σ H' _ ⟨_, _, _, _, _, _, _, _, s, _⟩ => SqL.of (s _ _ hT)) ?_ ?_⟩
    · rintro i x σ H4 t0 hi ⟨y4, y5, y6, y7, y8, kvs4, ys, rfl, s4, hd4, hk4, hg4, ty⟩ nt0
      obtain ⟨t, e, he, rfl, ht⟩ := ll.at hi
      have ib := it.is e (List.mem_of_getElem? he)
      have hil : i < ds.length := (List.getElem?_eq_some_iff.mp he).1
      have wl := winFrom_len tot 0 (ds.take i) fun c hc => it.is c (List.mem_of_mem_take hc)
      rw [List.length_take] at wl
      have s5 : Same H4 (upd H4 t0 (.tup [.int (i : Nat), .ref t])) := sNew nt0
      have ht5 : upd H4 t0 (.tup [.int (i : Nat), .ref t]) t0 = some (.tup [.int (i : Nat), .ref t]) := upd_same
      generalize upd H4 t0 (.tup [.int (i : Nat), .ref t]) = H5 at s5 ht5 ⊢
      refine ⟨t0, _, rfl, SqT.of ht5, rfl, _, _, rfl, _, _, rfl, rfl, ?_⟩
      -- aim
      refine ⟨_, rfl, _, rfl, _, rfl, t, d, e, kvs4, rfl, SqL.of (s5 _ _ (s4 _ _ ht)), ib, pieces_25 ib, s5 _ _ hd4, hk4, fun H6 kvs6 b6 hd6 hk6 => ?_⟩
      refine ⟨tot, worthL e, rfl, ?_⟩
      have hg6 := b6 _ _ dg.symm (s5 _ _ hg4)
      have ty6 := (ty.keep (KT.same s5)).keep (b6.kt (s5 _ _ hd4))
      have s6 : Same H H6 := fun c o h => b6 c o (ne_of_none h nd) (s5 _ _ (s4 _ _ h))
      -- the bites
      refine ⟨_, rfl, t, e, rfl, SqL.of (s6 _ _ ht), ib, fun H7 p zs s7 np hp tp => ?_⟩
      have hd7 := s7 _ _ hd6
      have hg7 := s7 _ _ hg6
      have pd : p ≠ d := ne_of_none hd6 np |>.symm
      have pg : p ≠ g := ne_of_none hg6 np |>.symm
      have ezs : zs.length = (bitesL e).length := by rw [tp.length, List.length_map]
      refine ⟨p, rfl, ⟨_, SqL.of hp⟩, for_list (K := K) (a := p) (xs := zs) (fun j σ H' => ∃ (y7 y8 : Option V) (kvs : List (List Key × V)) (ys : List V), σ = [some (.ref T), some (.ref d), some (.int (tot : Nat)), some (.ref g), some (.int (i : Nat)), some (.ref t), some (.int ((tot ^^^ worthL e : Nat) : Int)), y7, y8] ∧
          But2 d g H7 H' ∧ H' d = some (.dT kvs) ∧ Known kvs ∧ H' g = some (.lst ys) ∧ TL H' ys (winFrom tot 0 (ds.take i) ++ winBar tot i e ((bitesL e).take j)))
        ⟨y7, y8, kvs6, ys, rfl, But2.refl, hd7, hk6, hg7, by rw [show winBar tot i e ((bitesL e).take 0) = [] from rfl, List.append_nil]; exact ty6.keep (KT.same s7)⟩ (fun j σ H' _ ⟨_, _, _, _, _, b, _⟩ => SqL.of (b _ _ pd pg hp)) ?_ ?_⟩
      · rintro j x σ H8 hj ⟨y7, y8, kvs8, ys8, rfl, b8, hd8, hk8, hg8, ty8⟩
        obtain ⟨u, c, hc, rfl, hu⟩ := tp.bite hj
        have hcm : c ∈ bitesL e := List.mem_of_getElem? hc
        have ud : u ≠ d := ne_of hu hd7 (by intro z; cases z)
        have ug : u ≠ g := ne_of hu hg7 (by intro z; cases z)
        have s8 : Same H H8 := But2.same0 (s6.trans s7) nd gn b8
        have yl : ys8.length ≤ 1000 := by
          have h1 := winBar_len tot i e ((bitesL e).take j)
          have h2 := bitesL_len ib
          rw [List.length_take] at h1
          rw [ty8.length, List.length_append]
          omega
        refine ⟨u, _, rfl, SqT.of (b8 _ _ ud ug hu), rfl, _, _, rfl, _, _, rfl, rfl, ?_⟩
        refine ⟨_, rfl, _, rfl, _, rfl, t, e, c.1, c.2, rfl, SqL.of (s8 _ _ ht), ib, hcm, fun H9 v s9 nv hv => ?_⟩
        refine ⟨_, rfl, v, d, _, kvs8, rfl, SqL.of hv, isBar_behind ib hcm, pieces_25 (isBar_behind ib hcm), s9 _ _ hd8, hk8, fun H10 kvs10 b10 hd10 hk10 => ?_⟩
        have hg10 := b10 _ _ dg.symm (s9 _ _ hg8)
        have bb : But2 d g H7 H10 := b8.trans ((But2.same s9).trans (But2.but b10))
        have ty10 := (ty8.keep (KT.same s9)).keep (b10.kt (s9 _ _ hd8))
        have more := winBar_more tot i e hc
        refine ⟨_, rfl, rfl, _, rfl, d2_ (fun z => ?_) (fun z => ?_)⟩
        · have hw : isWin tot e c = true := decide_eq_true (by have := int_eq z; unfold wB; omega)
          rw [if_pos hw] at more
          refine ⟨_, rfl, .inl ⟨rfl, _, SqL.of hg10⟩, _, rfl, _, rfl, _, rfl, by show 3 ≤ sizeLine; decide, fun r nr => ?_⟩
          have gr : g ≠ r := ne_of_none hg10 nr
          have s11 : Same H10 (upd H10 r (.tup [.int (i : Nat), .int (c.1 : Nat), .int (c.2 : Nat)])) := sNew nr
          have hr11 : upd H10 r (.tup [.int (i : Nat), .int (c.1 : Nat), .int (c.2 : Nat)]) r = some (.tup ((tri i c).map V.int)) := upd_same
          generalize upd H10 r (.tup [.int (i : Nat), .int (c.1 : Nat), .int (c.2 : Nat)]) = H11 at s11 hr11 ⊢
          have hg11 := s11 _ _ hg10
          refine ⟨g, ys8, _, rfl, rfl, hg11, small' (by omega), ?_⟩
          refine ⟨_, _, kvs10, ys8 ++ [.ref r], rfl, bb.trans ((But2.same s11).trans But2.at), by rw [upd_ne dg]; exact s11 _ _ hd10, hk10, upd_same, ?_⟩
          rw [more, ← List.append_assoc]
          exact TL.keep (KT.lst hg11) ((ty10.keep (KT.same s11)).snoc hr11)
        · have hw : ¬ isWin tot e c = true := fun h => z (by
            have h' : wB e c = tot ^^^ worthL e := of_decide_eq_true h
            show V.int ((worthL (behindL e c.1 c.2) : Nat) : Int) = V.int ((tot ^^^ worthL e : Nat) : Int)
            rw [← h']
            all_goals rfl)
          rw [if_neg hw, List.append_nil] at more
          exact ⟨_, _, kvs10, ys8, rfl, bb, hd10, hk10, hg10, by rw [more]; exact ty10⟩
      · rintro σ H8 ⟨y7, y8, kvs8, ys8, rfl, b8, hd8, hk8, hg8, ty8⟩
        rw [ezs, List.take_length] at ty8
        refine ⟨_, _, _, _, _, kvs8, ys8, rfl, But2.same0 (s6.trans s7) nd gn b8, hd8, hk8, hg8, ?_⟩
        rw [winFrom_more tot he]
        exact ty8
    · rintro σ H4 ⟨y4, y5, y6, y7, y8, kvs4, ys, rfl, s4, hd4, hk4, hg4, ty⟩
      rw [el, List.take_length] at ty
      refine ⟨_, rfl, q H4 g ys s4 gn hg4 ?_⟩
      unfold winL
      rw [htot]
      exact ty
end
abbrev s_moved : Stmt := topS 23
abbrev N_moved : List Str := ["table", "number", "row", "column", "found", "bar"]
theorem sc_moved : FnScope N_moved ["table", "number", "row", "column"] (defScope s_moved) := ⟨rfl, rfl, rfl, by decide +kernel, rfl, by decide +kernel, by decide +kernel⟩
section
variable {P : Program} {w : World} {K : PySem.W.Frag} {mg : Str → Option Value} {base : Heap}
/-- moved(table, number, row, column), a bite that can be made -/
def sp_moved (K : PySem.W.Frag) : Sp := fun vs H Q _ => ∃ (T : Addr) (xs : List V) (ds : List (List Int)) (n : Nat) (d : List Int) (r c : Nat), vs = [.ref T, .int (n : Nat), .int (r : Nat), .int (c : Nat)] ∧ H T = some (.lst xs) ∧ LL H xs ds ∧ IsTable ds ∧ ds[n]? = some d ∧ (r, c) ∈ bitesL d ∧
  ∀ H' p ys, Same H H' → H p = none → H' p = some (.lst ys) → LL H' ys (ds.set n (behindL d r c)) → NewL H ys → V.ref p ∉ ys → Q (.ref p) H'
theorem ok_moved {f : Addr} {fd : FuncData} (F : Fun K "moved" "moved" s_moved f fd) (m_len : mg "len" = none) (m_list : mg "list" = none) (C_asked_table : Cal P w K mg base CX0 3 "asked_table" ["table"] (sp_asked_table K)) (C_bites_of : Cal P w K mg base CX0 1 "bites_of" ["bar"] (sp_bites_of K))
    (C_behind : Cal P w K mg base CX0 1 "behind" ["bar", "row", "column"] (sp_behind K)) : FnOk P w K mg base CX0 4 f fd ["table", "number", "row", "column"] (sp_moved K) := by
  refine F.ok sc_moved (fun vs H Q E h => ?_) (fun cdv A outer s H vs Q E hr h => ?_)
  · obtain ⟨T, xs, ds, n, d, r, c, rfl, _⟩ := h
    rfl
  · obtain ⟨T, xs, ds, n, d, r, c, rfl, hT, ll, it, hn, hm, q⟩ := h
    have el := ll.length
    have l3 := it.le
    have hnl : n < ds.length := (List.getElem?_eq_some_iff.mp hn).1
    have ib := it.is d (List.mem_of_getElem? hn)
    obtain ⟨t, ht, hdt⟩ := ll.get hn
    refine ⟨_, (pss_cons (ps_expr (pe_c C_asked_table hr (by decide) pass0 (pa_cons (pv 0) pa_nil)))
      (pss_cons (ps_if (PW.pt (pw_or (pt_cmpR op_lt (pv 1) pe_int (nomark _)) (pw_or (pt_cmpR op_ge (pv 1) (pe_callB (lenK (K := K)) (by rfl) m_len PySem.boot_len (pa_cons (pv 0) pa_nil)) (nomark _)) (pw_or1 (pt_cmpR (notInDK (K := K) (hu65 hr)) (pe_tup (pa_cons (pv 2) (pa_cons (pv 3) pa_nil))) (pe_c C_bites_of hr (by decide) pass0 (pa_cons (pe_ix (ixK (K := K)) (pv 0) (pv 1) (fun _ _ => rfl)) pa_nil)) (by rfl))))))
        (pss_one ps_never)
        pss_nil)
      (pss_cons (ps_setLc (i := 4) (own := [("bar", 5)]) (g := gName 5) (tt := tYes) rfl sc_moved.nd rfl rfl (sw_true rfl rfl rfl (by decide +kernel)) (pi_listK (K := K) (pv 0)) (blkOk_by (N := N_moved) (sc := defScope s_moved) (by decide +kernel)) (fun _ _ _ _ _ => (pg_name (i := 5) sc_moved.nd rfl (.inl rfl))) (fun _ _ _ _ _ => pts_nil) (fun _ _ _ _ _ => (pe_callTy (listK (K := K)) (by rfl) m_list (by decide +kernel) (pa_cons (pv 5) pa_nil))))
      (pss_cons (ps_asg (pe_c C_behind hr (by decide) pass0 (pa_cons (pe_ix (ixK (K := K)) (pv 0) (pv 1) (fun _ _ => rfl)) (pa_cons (pv 2) (pa_cons (pv 3) pa_nil)))) (pg_sub (pv 4) (pv 1) set_list))
      (pss_one (ps_ret (pv 4))))))), ?_⟩
    refine ⟨_, rfl, T, xs, ds, rfl, SqL.of hT, ll, it, ?_⟩
    -- the test
    refine ⟨_, rfl, _, _, rfl, rfl, _, rfl, dF_ (by omega) ?_⟩
    refine ⟨_, rfl, _, rfl, T, _, rfl, .inl (SqL.of hT), _, _, rfl, rfl, _, rfl, dF_ (by omega) ?_⟩
    refine ⟨_, rfl, _, rfl, by show 2 ≤ sizeLine; decide, fun u nu => ?_⟩
    have s1 : Same H (upd H u (.tup [.int (r : Nat), .int (c : Nat)])) := sNew nu
    have hu1 : upd H u (.tup [.int (r : Nat), .int (c : Nat)]) u = some (.tup ((pr (r, c)).map V.int)) := upd_same
    generalize upd H u (.tup [.int (r : Nat), .int (c : Nat)]) = H1 at s1 hu1 ⊢
    refine ⟨_, rfl, _, rfl, T, _, _, _, rfl, rfl, SqL.of (s1 _ _ hT), atI_nat ht, t, d, rfl, SqL.of (s1 _ _ hdt), ib, fun H2 p zs s2 np hp tp => ?_⟩
    refine ⟨_, _, dp_tup (s2 _ _ hu1), dp_tl (SqL.of hp) tp, shaped_tup _, shaped_tups _, _, rfl, ?_⟩
    rw [any_tup, decide_eq_true (pr_mem.mpr hm)]
    refine iteF ?_
    have s12 := s1.trans s2
    -- found = [list(bar) for bar in table]
    refine ⟨_, rfl, T, rfl, ⟨_, SqL.of (s12 _ _ hT)⟩, fun G nG => ?_⟩
    refine copy_loop (T := T) (xs := xs) (ds := ds) (by show 5 < 6; omega) (SqL.of (s12 _ _ hT)) (ll.same s12) (by omega) nG fun H3 ys s3 hG lG nw nm => ?_
    have s13 := s12.trans s3
    -- found[number] = behind(..)
    refine ⟨_, rfl, _, rfl, T, _, _, _, rfl, rfl, SqL.of (s13 _ _ hT), atI_nat ht, _, rfl, _, rfl, t, d, r, c, rfl, SqL.of (s13 _ _ hdt), ib, hm, fun H4 g s4 ng hg => ?_⟩
    have hG4 := s4 _ _ hG
    have gG : g ≠ G := (ne_of_none hG ng).symm
    have eyl : ys.length = ds.length := lG.length
    have GH : H G = none := s12.free nG
    refine ⟨_, rfl, _, rfl, G, ys, (n : Int), n, rfl, rfl, hG4, ?_, ?_⟩
    · unfold ixN
      rw [if_pos (by omega), if_pos (by omega), Int.toNat_natCast]
    · refine ⟨_, rfl, q _ G (ys.set n (.ref g)) (sPut (s13.trans s4) GH) GH upd_same ?_ ?_ ?_⟩
      · refine LL.set (by rw [upd_ne gG]; exact hg) n (LL.keepM lG fun b cs hb e => ?_)
        have bG : b ≠ G := fun z => nm (by rw [← z]; exact hb)
        rw [upd_ne bG]
        exact s4 _ _ e
      · intro y hy v e
        rcases List.mem_or_eq_of_mem_set hy with h' | h'
        · exact s12.free (nw y h' v e)
        · rw [h'] at e
          rw [← V.ref.inj e]
          exact s13.free ng
      · intro z
        rcases List.mem_or_eq_of_mem_set z with h' | h'
        · exact nm h'
        · exact gG (V.ref.inj h').symm
end
abbrev s_law_cell_at : Stmt := topS 25
abbrev N_law_cell_at : List Str := ["script", "k"]
theorem sc_law_cell_at : FnScope N_law_cell_at ["script", "k"] (defScope s_law_cell_at) := ⟨rfl, rfl, rfl, by decide +kernel, rfl, by decide +kernel, by decide +kernel⟩
section
variable {P : Program} {w : World} {K : PySem.W.Frag} {mg : Str → Option Value} {base : Heap}
/-- _law_cell_at(script, k) -/
def cellAt (ns : List Int) (k : Nat) : Int := ns.getD k 0
def sp_law_cell_at (K : PySem.W.Frag) : Sp := fun vs H Q _ => ∃ (a : Addr) (ns : List Int) (k : Nat), vs = [.ref a, .int k] ∧ SqL K H a (ns.map V.int) ∧ Q (.int (cellAt ns k)) H
theorem ok_law_cell_at {f : Addr} {fd : FuncData} (F : Fun K "_law_cell_at" "_law_cell_at" s_law_cell_at f fd) (m_len : mg "len" = none) : FnOk P w K mg base CX0 1 f fd ["script", "k"] (sp_law_cell_at K) := by
  refine F.ok sc_law_cell_at (fun vs H Q E h => ?_) (fun cdv A outer s H vs Q E hr h => ?_)
  · obtain ⟨a, ns, k, rfl, _⟩ := h
    rfl
  · obtain ⟨a, ns, k, rfl, hS, q⟩ := h
    have hl : (ns.map V.int).length = ns.length := List.length_map _
    refine ⟨_, (pss_cons (ps_if (pt_cmpR op_lt (pv 1) (pe_callB (lenK (K := K)) (by rfl) m_len PySem.boot_len (pa_cons (pv 0) pa_nil)) (nomark _))
        (pss_one (ps_ret (pe_ix (ixK (K := K)) (pv 0) (pv 1) (fun _ _ => rfl))))
        pss_nil)
      (pss_one (ps_ret pe_int))), ?_⟩
    refine ⟨_, rfl, _, rfl, a, _, rfl, .inl hS, _, _, rfl, rfl, _, rfl, ite2 (fun c => ?_) (fun c => ?_)⟩
    · have c' := of_decide_eq_true c
      rw [hl] at c'
      have hk : k < ns.length := by omega
      have e : cellAt ns k = ns[k] := by
        unfold cellAt
        rw [List.getD_eq_getElem?_getD, List.getElem?_eq_getElem hk]; rfl
      rw [e] at q
      exact ⟨_, rfl, _, rfl, a, _, _, _, rfl, rfl, hS, at_map (List.getElem?_eq_getElem hk), q⟩
    · have c' := of_decide_eq_false (Bool.eq_false_iff.mpr c)
      rw [hl] at c'
      have e : cellAt ns k = 0 := by
        unfold cellAt
        rw [List.getD_eq_getElem?_getD, List.getElem?_eq_none (by omega)]; rfl
      rw [e] at q
      exact q
end
abbrev s_law_bar_by : Stmt := topS 26
abbrev N_law_bar_by : List Str := ["cell", "most", "many", "found", "k"]
theorem sc_law_bar_by : FnScope N_law_bar_by ["cell", "most"] (defScope s_law_bar_by) := ⟨rfl, rfl, rfl, by decide +kernel, rfl, by decide +kernel, by decide +kernel⟩
section
variable {P : Program} {w : World} {K : PySem.W.Frag} {mg : Str → Option Value} {base : Heap}
/-- _law_bar_by(cell, most): a bar -/
def sp_law_bar_by (K : PySem.W.Frag) : Sp := fun vs H Q _ => ∃ (c m : Int), vs = [.int c, .int m] ∧ 1 ≤ m ∧ m ≤ 5 ∧
  ∀ H' p ns, Same H H' → H p = none → H' p = some (.lst (ns.map V.int)) → IsBar m ns → Q (.ref p) H'
theorem ok_law_bar_by {f : Addr} {fd : FuncData} (F : Fun K "_law_bar_by" "_law_bar_by" s_law_bar_by f fd) (m_range : mg "range" = none) (m_sorted : mg "sorted" = none) : FnOk P w K mg base CX0 1 f fd ["cell", "most"] (sp_law_bar_by K) := by
  refine F.ok sc_law_bar_by (fun vs H Q E h => ?_) (fun cdv A outer s H vs Q E hr h => ?_)
  · obtain ⟨c, m, rfl, _⟩ := h
    rfl
  · obtain ⟨c, m, rfl, h1, h5, q⟩ := h
    have hm0 := Int.emod_nonneg c (show m ≠ 0 by omega)
    have hm1 := Int.emod_lt_of_pos c (show 0 < m by omega)
    refine ⟨_, (pss_cons (ps_set (i := 2) sc_law_bar_by.nd rfl (.inl rfl) (pe_op op_add pe_int (pe_op op_mod (pv 0) (pv 1))))
      (pss_cons (ps_set (i := 0) sc_law_bar_by.nd rfl (.inl rfl) (pe_op op_fdiv (pv 0) (pv 1)))
      (pss_cons (ps_set (i := 3) sc_law_bar_by.nd rfl (.inl rfl) (pe_lst pa_nil))
      (pss_cons (ps_for PassesOwn.never rfl (pi_range1 (by rfl) m_range (pa_cons (pv 2) pa_nil)) (pg_name (i := 4) sc_law_bar_by.nd rfl (.inl rfl))
        (pss_cons (ps_expr (pe_bmK (K := K) PySem.F.plainAttrs_list PySem.F.slot_list_append PySem.F.type_list_append mt_append (pv 3) (pa_cons (pe_op op_add pe_int (pe_op op_mod (pv 0) (pv 1))) pa_nil)))
        (pss_one (ps_set (i := 0) sc_law_bar_by.nd rfl (.inl rfl) (pe_op op_fdiv (pv 0) (pv 1))))))
      (pss_one (ps_ret (pe_callBK (sortedRevK (K := K)) (by rfl) m_sorted (by decide +kernel) (pa_cons (pv 3) pa_nil) (pk_cons pe_bl pk_nil)))))))), ?_⟩
    refine ⟨_, rfl, _, rfl, _, _, rfl, rfl, (by show 0 < m; omega), _, _, rfl, rfl, ?_⟩
    refine ⟨_, rfl, _, rfl, _, _, rfl, rfl, ⟨by omega, by omega⟩, Nat.zero_le _, fun o no => ?_⟩
    refine ⟨_, rfl, _, rfl, by omega, by omega,
      for_range (lo := 0) (fun i σ H' => ∃ (c' : Int) (y : Option V) (ds : List Int), σ = [some (.int c'), some (.int m), some (.int (1 + c % m)), some (.ref o), y] ∧ H' = upd H o (.lst (ds.map V.int)) ∧ ds.length = i ∧ ∀ x ∈ ds, 1 ≤ x ∧ x ≤ m)
      ⟨_, none, [], rfl, rfl, rfl, fun x hx => nomatch hx⟩ ?_ ?_⟩
    · rintro i σ H1 hi ⟨c', y, ds, rfl, rfl, el, hx⟩
      have hc0 := Int.emod_nonneg c' (show m ≠ 0 by omega)
      have hc1 := Int.emod_lt_of_pos c' (show 0 < m by omega)
      refine ⟨_, rfl, .inl ⟨rfl, _, SqL.of upd_same⟩, ?_⟩
      refine ⟨_, rfl, _, rfl, _, _, rfl, rfl, (by show 0 < m; omega), _, _, rfl, rfl, o, _, _, rfl, rfl, upd_same, by rw [List.length_map]; exact small' (by omega), ?_⟩
      refine ⟨_, rfl, _, rfl, _, _, rfl, rfl, ⟨by omega, by omega⟩, ?_⟩
      refine ⟨_, _, ds ++ [1 + c' % m], rfl, ?_, by rw [List.length_append, el]; rfl, fun x h => ?_⟩
      · rw [upd_upd, List.map_append]; rfl
      · rcases List.mem_append.mp h with h | h
        · exact hx x h
        · have := List.mem_singleton.mp h
          omega
    · rintro σ H1 ⟨c', y, ds, rfl, rfl, el, hx⟩
      refine ⟨_, rfl, o, ds, rfl, rfl, SqL.of upd_same, fun ns p hp ho np => ?_⟩
      have hlen := hp.length_eq
      refine q _ p ns (sThen (sNew no) np) ?_ upd_same ⟨by omega, by omega, ho, fun x h => hx x (hp.mem_iff.mp h)⟩
      cases e : H p with
      | none => rfl
      | some u =>
        have := sNew (o := .lst (ds.map V.int)) no p u e
        rw [np] at this
        cases this
end
abbrev s_law_table_by : Stmt := topS 27
abbrev N_law_table_by : List Str := ["script", "at", "most", "k"]
theorem sc_law_table_by : FnScope N_law_table_by ["script", "at", "most"] (defScope s_law_table_by) := ⟨rfl, rfl, rfl, by decide +kernel, rfl, by decide +kernel, by decide +kernel⟩
section
variable {P : Program} {w : World} {K : PySem.W.Frag} {mg : Str → Option Value} {base : Heap}
/-- _law_table_by(script, at, most): a new table -/
def sp_law_table_by (K : PySem.W.Frag) : Sp := fun vs H Q _ => ∃ (a : Addr) (ns : List Int) (k : Nat) (m : Int), vs = [.ref a, .int (k : Nat), .int m] ∧ SqL K H a (ns.map V.int) ∧ 1 ≤ m ∧ m ≤ 5 ∧
  ∀ H' T xs ds, Same H H' → H T = none → H' T = some (.lst xs) → LL H' xs ds → IsTable ds → Q (.ref T) H'
theorem ok_law_table_by {f : Addr} {fd : FuncData} (F : Fun K "_law_table_by" "_law_table_by" s_law_table_by f fd) (m_range : mg "range" = none) (C_law_cell_at : Cal P w K mg base CX0 1 "_law_cell_at" ["script", "k"] (sp_law_cell_at K)) (C_law_bar_by : Cal P w K mg base CX0 1 "_law_bar_by" ["cell", "most"] (sp_law_bar_by K)) :
    FnOk P w K mg base CX0 2 f fd ["script", "at", "most"] (sp_law_table_by K) := by
  refine F.ok sc_law_table_by (fun vs H Q E h => ?_) (fun cdv A outer s H vs Q E hr h => ?_)
  · obtain ⟨a, ns, k, m, rfl, _⟩ := h
    rfl
  · obtain ⟨a, ns, k, m, rfl, hS, m1, m5, q⟩ := h
    have h0 := Int.emod_nonneg (cellAt ns k) (show (4 : Int) ≠ 0 by decide)
    have h1 := Int.emod_lt_of_pos (cellAt ns k) (show (0 : Int) < 4 by decide)
    refine ⟨_, (pss_one (ps_ret (pe_lc (own := [("k", 3)]) (g := gName 3) (tt := tYes) rfl sc_law_table_by.nd (pi_range1 (by rfl) m_range (pa_cons (pe_op op_mod (pe_c C_law_cell_at hr (by decide) pass0 (pa_cons (pv 0) (pa_cons (pv 1) pa_nil))) pe_int) pa_nil)) (blkOk_by (N := N_law_table_by) (sc := defScope s_law_table_by) (by decide +kernel)) (fun _ _ _ _ _ => (pg_name (i := 3) sc_law_table_by.nd rfl (.inl rfl))) (fun _ _ _ _ _ => pts_nil) (fun _ _ _ _ _ => (pe_c C_law_bar_by hr (by decide) pass0 (pa_cons (pe_c C_law_cell_at hr (by decide) pass0 (pa_cons (pv 0) (pa_cons (pe_op op_add (pe_op op_add (pv 1) pe_int) (pv 3)) pa_nil))) (pa_cons (pv 2) pa_nil))))))), ?_⟩
    refine ⟨_, rfl, _, rfl, a, ns, k, rfl, hS, _, _, rfl, rfl, (by show (0 : Int) < 4; decide), _, rfl, by omega, by omega, fun D nD => ?_⟩
    refine lc_range (lo := 0) (n := (cellAt ns k % 4).toNat) (fun i H' => ∃ (ys : List V) (ds : List (List Int)), Same H H' ∧ H' D = some (.lst ys) ∧ LL H' ys ds ∧ (∀ d ∈ ds, IsBar 5 d) ∧ ds.length = i ∧ V.ref D ∉ ys)
      ⟨[], [], sNew nD, upd_same, Paired.nil, fun x hx => (nomatch hx), rfl, by simp⟩ ?_ ?_
    · rintro i H1 hi ⟨ys, ds, s1, hD, ly, ib, el, nm⟩
      refine ⟨rfl, yesT ?_⟩
      refine ⟨_, rfl, _, rfl, _, _, rfl, rfl, _, rfl, _, _, rfl, rfl, a, ns, k + 1 + i, ?_, s1.seq hS, ?_⟩
      · show [V.ref a, V.int ((k : Int) + 1 + (0 + (i : Int)))] = [V.ref a, V.int ((k + 1 + i : Nat) : Int)]
        rw [show (k : Int) + 1 + (0 + (i : Int)) = ((k + 1 + i : Nat) : Int) by omega]
      refine ⟨_, rfl, _, m, rfl, m1, m5, fun H2 b bs s2 nb hb ib2 => ?_⟩
      have Db : D ≠ b := ne_of_none hD nb
      have hyl : ys.length = i := by rw [ly.length, el]
      refine ⟨ys, s2 _ _ hD, small' (by omega), ys ++ [.ref b], ds ++ [bs], sPut (s1.trans s2) nD, upd_same, ?_, ?_, by rw [List.length_append, el]; rfl, fun z => ?_⟩
      · refine LL.snoc (LL.keepM ly fun c cs hm e => ?_) (by rw [upd_ne Db.symm]; exact hb)
        have h1 : c ≠ D := fun z => nm (by rw [← z]; exact hm)
        rw [upd_ne h1]
        exact s2 _ _ e
      · intro d hd
        rcases List.mem_append.mp hd with h | h
        · exact ib d h
        · rw [List.mem_singleton.mp h]
          exact ib2.mono m5
      · rcases List.mem_append.mp z with h | h
        · exact nm h
        · exact Db (V.ref.inj (List.mem_singleton.mp h))
    · rintro H1 ⟨ys, ds, s1, hD, ly, ib, el, nm⟩
      exact q H1 D ys ds s1 nD hD ly ⟨by omega, ib⟩
end
abbrev s_law_drawn : Stmt := topS 28
abbrev N_law_drawn : List Str := ["table", "cell", "spots", "number", "row", "column"]
theorem sc_law_drawn : FnScope N_law_drawn ["table", "cell"] (defScope s_law_drawn) := ⟨rfl, rfl, rfl, by decide +kernel, rfl, by decide +kernel, by decide +kernel⟩
section
variable {P : Program} {w : World} {K : PySem.W.Frag} {mg : Str → Option Value} {base : Heap}
/-- _law_drawn(table, cell): one of all spots, or None where there is none -/
def sp_law_drawn (K : PySem.W.Frag) : Sp := fun vs H Q _ => ∃ (T : Addr) (xs : List V) (ds : List (List Int)) (c : Int), vs = [.ref T, .int c] ∧ H T = some (.lst xs) ∧ LL H xs ds ∧ IsTable ds ∧
  ∀ H', Same H H' → (spots ds = [] → Q .non H') ∧ (∀ u e, e ∈ spots ds → H' u = some (.tup (e.map V.int)) → Q (.ref u) H')
theorem ok_law_drawn {f : Addr} {fd : FuncData} (F : Fun K "_law_drawn" "_law_drawn" s_law_drawn f fd) (m_len : mg "len" = none) (m_range : mg "range" = none) (C_bites : Cal P w K mg base CX0 3 "bites" ["bar"] (sp_bites K)) : FnOk P w K mg base CX0 4 f fd ["table", "cell"] (sp_law_drawn K) := by
  refine F.ok sc_law_drawn (fun vs H Q E h => ?_) (fun cdv A outer s H vs Q E hr h => ?_)
  · obtain ⟨T, xs, ds, c, rfl, _⟩ := h
    rfl
  · obtain ⟨T, xs, ds, c, rfl, hT, ll, it, q⟩ := h
    have el := ll.length
    have l3 := it.le
    refine ⟨_, (pss_cons (ps_set (i := 2) sc_law_drawn.nd rfl (.inl rfl) (pe_lst pa_nil))
      (pss_cons (ps_for PassesOwn.never rfl (pi_range1 (by rfl) m_range (pa_cons (pe_callB (lenK (K := K)) (by rfl) m_len PySem.boot_len (pa_cons (pv 0) pa_nil)) pa_nil)) (pg_name (i := 3) sc_law_drawn.nd rfl (.inr rfl))
        (pss_one (ps_set (i := 2) sc_law_drawn.nd rfl (.inl rfl) (pe_op op_cat (pv 2) (pe_lc (own := [("row", 4), ("column", 5)]) (g := gTup K 2 (gCons (gName 4) (gCons (gName 5) gNil))) (tt := tYes) rfl sc_law_drawn.nd (pi_listK (K := K) (pe_c C_bites hr (by decide) pass0 (pa_cons (pe_ix (ixK (K := K)) (pv 0) (pv 3) (fun _ _ => rfl)) pa_nil))) (blkOk_by (N := N_law_drawn) (sc := defScope s_law_drawn) (by decide +kernel)) (fun _ _ _ _ _ => (pg_tupK (K := K) rfl (pgs_cons (pg_name (i := 4) sc_law_drawn.nd rfl (.inl rfl)) (pgs_cons (pg_name (i := 5) sc_law_drawn.nd rfl (.inl rfl)) pgs_nil)))) (fun _ _ _ _ _ => pts_nil) (fun _ _ _ _ _ => (pe_tup (pa_cons (pv 3) (pa_cons (pv 4) (pa_cons (pv 5) pa_nil))))))))))
      (pss_cons (ps_if (pt_cmpR (eqDK (K := K) hr.units) (pv 2) (pe_lst pa_nil) (nomark _))
        (pss_one (ps_ret pe_non))
        pss_nil)
      (pss_one (ps_ret (pe_ix (ixK (K := K)) (pv 2) (pe_op op_mod (pv 1) (pe_callB (lenK (K := K)) (by rfl) m_len PySem.boot_len (pa_cons (pv 2) pa_nil))) (fun _ _ => rfl))))))), ?_⟩
    refine ⟨Nat.zero_le _, fun o no => ?_⟩
    refine ⟨_, rfl, T, _, rfl, .inl (SqL.of (sNew no _ _ hT)), _, rfl, by omega, by omega, for_range (lo := 0) (fun i σ H' => ∃ (o : Addr) (y3 : Option V) (ys : List V), σ = [some (.ref T), some (.int c), some (.ref o), y3, none, none] ∧ Same H H' ∧ H' o = some (.lst ys) ∧ TL H' ys (spots (ds.take i)))
      ⟨o, none, [], rfl, sNew no, upd_same, TL.nil⟩ ?_ ?_⟩
    · rintro i σ H1 hi ⟨o, y3, ys, rfl, s1, ho, ty⟩
      rw [el, Int.toNat_natCast] at hi
      have he := List.getElem?_eq_getElem hi
      generalize ds[i] = d at he
      have ib := it.is d (List.mem_of_getElem? he)
      have b25 := bitesL_len ib
      obtain ⟨t, ht, hdt⟩ := ll.get he
      have sl := spotsFrom_len 0 (ds.take i) fun e h => it.is e (List.mem_of_mem_take h)
      rw [List.length_take] at sl
      have yl : ys.length ≤ 75 := by
        rw [ty.length]
        unfold spots
        omega
      rw [Int.zero_add]
      refine ⟨_, rfl, _, rfl, _, rfl, T, _, _, _, rfl, rfl, SqL.of (s1 _ _ hT), atI_nat ht, t, d, rfl, SqL.of (s1 _ _ hdt), ib, fun H2 p zs s2 np hp tp => ?_⟩
      have ezs : zs.length = (bitesL d).length := by rw [tp.length, List.length_map]
      refine ⟨p, rfl, ⟨_, SqL.of hp⟩, fun D nD => ?_⟩
      refine lc_list (K := K) (a := p) (xs := zs) (fun j H' => ∃ us : List V, Same H2 H' ∧ H' D = some (.lst us) ∧ TL H' us (((bitesL d).take j).map (tri i))) ⟨[], sNew nD, upd_same, TL.nil⟩ (fun _ _ _ ⟨_, s, _⟩ => SqL.of (s _ _ hp)) ?_ ?_
      · rintro j x H3 hj ⟨us, s3, hD, tu⟩
        obtain ⟨v, b, hb, rfl, hv⟩ := tp.bite hj
        refine ⟨v, _, rfl, SqT.of (s3 _ _ hv), rfl, _, _, rfl, _, _, rfl, rfl, rfl, yesT ?_⟩
        refine ⟨_, rfl, _, rfl, _, rfl, by show 3 ≤ sizeLine; decide, fun r nr => ?_⟩
        have Dr : D ≠ r := ne_of_none hD nr
        have s4 : Same H3 (upd H3 r (.tup [.int (i : Nat), .int (b.1 : Nat), .int (b.2 : Nat)])) := sNew nr
        have hr4 : upd H3 r (.tup [.int (i : Nat), .int (b.1 : Nat), .int (b.2 : Nat)]) r = some (.tup ((tri i b).map V.int)) := upd_same
        generalize upd H3 r (.tup [.int (i : Nat), .int (b.1 : Nat), .int (b.2 : Nat)]) = H4 at s4 hr4 ⊢
        have hD4 := s4 _ _ hD
        refine ⟨us, hD4, ?_, us ++ [.ref r], sPut (s3.trans s4) nD, upd_same, ?_⟩
        · rw [tu.length, List.length_map, List.length_take]
          exact small' (by omega)
        · rw [take_more hb, List.map_append]
          exact TL.keep (KT.lst hD4) ((tu.keep (KT.same s4)).snoc hr4)
      · rintro H3 ⟨us, s3, hD, tu⟩
        rw [ezs, List.take_length] at tu
        have s23 := s2.trans s3
        refine ⟨o, D, ys, us, rfl, rfl, s23 _ _ ho, hD, ?_, fun o2 no2 => ?_⟩
        · rw [tu.length, List.length_map]
          exact small (by omega)
        · refine ⟨o2, _, ys ++ us, rfl, (s1.trans s23).trans (sNew no2), upd_same, ?_⟩
          rw [spots_more he]
          exact ((ty.keep (KT.same s23)).append tu).keep (KT.new no2)
    · rintro σ H1 ⟨o, y3, ys, rfl, s1, ho, ty⟩
      rw [el, Int.toNat_natCast, List.take_length] at ty
      have eys : ys.length = (spots ds).length := ty.length
      refine ⟨_, rfl, Nat.zero_le _, fun l nl => ?_⟩
      have s2 : Same H1 (upd H1 l (.lst [])) := sNew nl
      have hl2 : upd H1 l (.lst []) l = some (.lst (([] : List Int).map V.int)) := upd_same
      generalize upd H1 l (.lst []) = H2 at s2 hl2 ⊢
      obtain ⟨q1, q2⟩ := q H2 (s1.trans s2)
      have ty2 := ty.keep (KT.same s2)
      refine ⟨_, _, dp_tl (SqL.of (s2 _ _ ho)) ty2, dp_list (SqL.of hl2), shaped_tups _, shaped_list _, _, rfl, ?_⟩
      rw [show PyData.eqv (.list (dT (spots ds))) (.list (dI [])) = decide (spots ds = []) from eqv_tl_nil _]
      refine d2_ (fun h => q1 h) (fun h => ?_)
      have hpos : 0 < ys.length := by
        rw [eys]
        exact List.length_pos_iff.mpr h
      have h0 := Int.emod_nonneg c (show (ys.length : Int) ≠ 0 by omega)
      have h1 := Int.emod_lt_of_pos c (show (0 : Int) < (ys.length : Int) by omega)
      obtain ⟨j, ej, hj⟩ : ∃ j : Nat, c % (ys.length : Int) = (j : Int) ∧ j < ys.length := ⟨(c % (ys.length : Int)).toNat, by omega, by omega⟩
      have hse := List.getElem?_eq_getElem (show j < (spots ds).length by omega)
      obtain ⟨u, gu, hu⟩ := ty2.get hse
      refine ⟨_, rfl, _, rfl, _, rfl, o, _, rfl, .inl (SqL.of (s2 _ _ ho)), _, _, rfl, rfl, (by show (0 : Int) < (ys.length : Int); omega), o, _, (j : Int), .ref u, rfl, congrArg V.int ej, SqL.of (s2 _ _ ho), atI_nat gu, ?_⟩
      exact q2 u _ (List.mem_of_getElem? hse) hu
end
abbrev s_law : Stmt := topS 29
abbrev N_law : List Str := ["script", "table", "told", "turn", "place", "good"]
theorem sc_law : FnScope N_law ["script"] (defScope s_law) := ⟨rfl, rfl, rfl, by decide +kernel, rfl, by decide +kernel, by decide +kernel⟩
section
variable {P : Program} {w : World} {K : PySem.W.Frag} {mg : Str → Option Value} {base : Heap}
/-- what holds between two turns of the play: m pieces are left -/
def Play (K : PySem.W.Frag) (a : Addr) (ns : List Int) (told : Bool) (m : Nat) (σ : L2.St) (H : Hp) : Prop :=
  ∃ (T : Addr) (xs : List V) (ds : List (List Int)) (t : Nat) (pl : V) (gd : Option V), σ = [some (.ref a), some (.ref T), some (.bl told), some (.int (t : Nat)), some pl, gd] ∧ SqL K H a (ns.map V.int) ∧ H T = some (.lst xs) ∧ LL H xs ds ∧ IsTable ds ∧ m = total ds ∧
    (decide (xorL (worthsL ds) ≠ 0) = (decide (t % 2 = 0) == told)) ∧ ((pl = .non ∧ spots ds = []) ∨ (pl ≠ .non ∧ spots ds ≠ []))
theorem bl_eq (a b : Bool) : decide (V.bl a = V.bl b) = (a == b) := by cases a <;> cases b <;> rfl
theorem odd_eq (t : Nat) : decide (V.int ((t : Int) % 2) = V.int 0) = decide (t % 2 = 0) := by
  by_cases h : t % 2 = 0
  · rw [decide_eq_true h, show (t : Int) % 2 = 0 by omega]
    rfl
  · rw [decide_eq_false h, decide_eq_false fun z => h (by have := int_eq z; omega)]
theorem odd_eq1 (t : Nat) : decide (V.int ((t : Int) % 2) = V.int 1) = !decide (t % 2 = 0) := by
  by_cases h : t % 2 = 0
  · rw [decide_eq_true h, show (t : Int) % 2 = 0 by omega]
    rfl
  · rw [decide_eq_false h, show (t : Int) % 2 = 1 by omega]
    rfl
theorem even_next (t : Nat) : decide ((t + 1) % 2 = 0) = !decide (t % 2 = 0) := by
  by_cases h : t % 2 = 0
  · rw [decide_eq_true h, decide_eq_false (by omega)]
    rfl
  · rw [decide_eq_false h, decide_eq_true (by omega)]
    rfl
theorem ok_law {f : Addr} {fd : FuncData} (F : Fun K "law" "law" s_law f fd) (C_law_table_by : Cal P w K mg base CX0 2 "_law_table_by" ["script", "at", "most"] (sp_law_table_by K)) (C_law_cell_at : Cal P w K mg base CX0 1 "_law_cell_at" ["script", "k"] (sp_law_cell_at K)) (C_wins : Cal P w K mg base CX0 30 "wins" ["table"] (sp_wins K))
    (C_law_drawn : Cal P w K mg base CX0 4 "_law_drawn" ["table", "cell"] (sp_law_drawn K)) (C_winning : Cal P w K mg base CX0 29 "winning" ["table"] (sp_winning K)) (C_moved : Cal P w K mg base CX0 4 "moved" ["table", "number", "row", "column"] (sp_moved K)) : FnOk P w K mg base CX0 31 f fd ["script"] (sp_law K) := by
  refine F.ok sc_law (fun vs H Q E h => ?_) (fun cdv A outer s H vs Q E hr h => ?_)
  · obtain ⟨a, ns, rfl, _⟩ := h
    rfl
  · obtain ⟨a, ns, rfl, hS, h63, q⟩ := h
    refine ⟨_, (pss_cons (ps_set (i := 1) sc_law.nd rfl (.inl rfl) (pe_c C_law_table_by hr (by decide) pass0 (pa_cons (pv 0) (pa_cons pe_int (pa_cons (pe_ix (ixK (K := K)) (pe_lst (pa_cons pe_int (pa_cons pe_int (pa_cons pe_int pa_nil)))) (pe_op op_mod (pe_c C_law_cell_at hr (by decide) pass0 (pa_cons (pv 0) (pa_cons pe_int pa_nil))) pe_int) (fun _ _ => rfl)) pa_nil)))))
      (pss_cons (ps_set (i := 2) sc_law.nd rfl (.inl rfl) (pe_c C_wins hr (by decide) pass0 (pa_cons (pv 1) pa_nil)))
      (pss_cons (ps_set (i := 3) sc_law.nd rfl (.inl rfl) pe_int)
      (pss_cons (ps_set (i := 4) sc_law.nd rfl (.inl rfl) (pe_c C_law_drawn hr (by decide) pass0 (pa_cons (pv 1) (pa_cons pe_int pa_nil))))
      (pss_cons (ps_while PassesOwn.never (pt_cmpR op_notN (pv 4) pe_non (nomark _))
        (pss_cons (ps_set (i := 4) sc_law.nd rfl (.inl rfl) (pe_c C_law_drawn hr (by decide) pass0 (pa_cons (pv 1) (pa_cons (pe_c C_law_cell_at hr (by decide) pass0 (pa_cons (pv 0) (pa_cons (pe_op op_add pe_int (pv 3)) pa_nil))) pa_nil))))
        (C8.pss_cut (ps_if (pt_cmpR op_eq (pe_cmpR op_eq (pe_op op_mod (pv 3) pe_int) pe_int (nomark _)) (pv 2) (nomark _))
          (pss_cons (ps_set (i := 5) sc_law.nd rfl (.inl rfl) (pe_c C_winning hr (by decide) pass0 (pa_cons (pv 1) pa_nil)))
          (pss_cons (ps_if (pt_cmpR (eqDK (K := K) hr.units) (pv 5) (pe_lst pa_nil) (nomark _))
            (pss_one (ps_ret pe_bl))
            pss_nil)
          (pss_one (ps_set (i := 4) sc_law.nd rfl (.inl rfl) (pe_ix (ixK (K := K)) (pv 5) pe_int (fun _ _ => rfl))))))
          pss_nil)
        (pss_cons (ps_set (i := 1) sc_law.nd rfl (.inl rfl) (pe_c C_moved hr (by decide) pass0 (pa_cons (pv 1) (pa_cons (pe_ix (ixTK (K := K)) (pv 4) pe_int (fun _ _ => rfl)) (pa_cons (pe_ix (ixTK (K := K)) (pv 4) pe_int (fun _ _ => rfl)) (pa_cons (pe_ix (ixTK (K := K)) (pv 4) pe_int (fun _ _ => rfl)) pa_nil))))))
        (pss_cons (ps_set (i := 3) sc_law.nd rfl (.inl rfl) (pe_op op_add (pv 3) pe_int))
        (pss_one (ps_set (i := 4) sc_law.nd rfl (.inl rfl) (pe_c C_law_drawn hr (by decide) pass0 (pa_cons (pv 1) (pa_cons pe_int pa_nil))))))))))
      (pss_one (ps_ret (pe_cmpR op_eq (pe_cmpR op_eq (pe_op op_mod (pv 3) pe_int) pe_int (nomark _)) (pv 2) (nomark _))))))))), ?_⟩
    -- the table
    refine ⟨_, rfl, by show 3 ≤ sizeLine; decide, fun l nl => ?_⟩
    have s0 : Same H (upd H l (.lst [.int 3, .int 3, .int 4])) := sNew nl
    have hl0 : upd H l (.lst [.int 3, .int 3, .int 4]) l = some (.lst (([3, 3, 4] : List Int).map V.int)) := upd_same
    generalize upd H l (.lst [.int 3, .int 3, .int 4]) = H0 at s0 hl0 ⊢
    obtain ⟨j, m, ej, em, m1, m5⟩ : ∃ (j : Nat) (m : Int), cellAt ns 0 % 3 = (j : Int) ∧ ([3, 3, 4] : List Int)[j]? = some m ∧ 1 ≤ m ∧ m ≤ 5 := by
      have h0 := Int.emod_nonneg (cellAt ns 0) (show (3 : Int) ≠ 0 by decide)
      have h1 := Int.emod_lt_of_pos (cellAt ns 0) (show (0 : Int) < 3 by decide)
      rcases (by omega : cellAt ns 0 % 3 = 0 ∨ cellAt ns 0 % 3 = 1 ∨ cellAt ns 0 % 3 = 2) with e | e | e
      · exact ⟨0, 3, e, rfl, by decide, by decide⟩
      · exact ⟨1, 3, e, rfl, by decide, by decide⟩
      · exact ⟨2, 4, e, rfl, by decide, by decide⟩
    refine ⟨_, rfl, a, ns, 0, rfl, s0.seq hS, _, 3, rfl, rfl, (by show (0 : Int) < 3; decide), l, _, (j : Int), .int m, rfl, congrArg V.int ej, SqL.of hl0, at_map em, ?_⟩
    refine ⟨a, ns, 1, m, rfl, s0.seq hS, m1, m5, fun H1 T xs ds s1 nT hT lT it => ?_⟩
    refine ⟨_, rfl, T, xs, ds, rfl, hT, lT, it, fun H2 s2 => ?_⟩
    have hS2 := s2.seq (s1.seq (s0.seq hS))
    generalize htold : decide (xorL (worthsL ds) ≠ 0) = told
    refine ⟨_, rfl, T, xs, ds, 0, rfl, s2 _ _ hT, lT.same s2, it, fun H3 s3 => ?_⟩
    -- the play
    have start : ∀ pl : V, ((pl = .non ∧ spots ds = []) ∨ (pl ≠ .non ∧ spots ds ≠ [])) → Play K a ns told (total ds) [some (.ref a), some (.ref T), some (.bl told), some (.int 0), some pl, none] H3 := fun pl hpl =>
      ⟨T, xs, ds, 0, pl, none, rfl, s3.seq hS2, s3 _ _ (s2 _ _ hT), (lT.same s2).same s3, it, rfl, by rw [htold]; cases told <;> rfl, hpl⟩
    have loop : ∀ (pl : V), Play K a ns told (total ds) [some (.ref a), some (.ref T), some (.bl told), some (.int 0), some pl, none] H3 → ∃ W : Nat → L2.St → Hp → Prop, (∃ m, W m [some (.ref a), some (.ref T), some (.bl told), some (.int 0), some pl, none] H3) ∧ ∀ m σ H, W m σ H → Play K a ns told m σ H :=
      fun pl h => ⟨Play K a ns told, ⟨_, h⟩, fun _ _ _ h => h⟩
    suffices turn : ∀ (m : Nat) (σ : L2.St) (H4 : Hp), Play K a ns told m σ H4 → _ by
      refine ⟨fun h => ?_, fun u e he hu => ?_⟩
      · exact ⟨Play K a ns told, ⟨_, start .non (.inl ⟨rfl, h⟩)⟩, turn⟩
      · exact ⟨Play K a ns told, ⟨_, start (.ref u) (.inr ⟨(by intro z; cases z), (by intro z; rw [z] at he; cases he)⟩)⟩, turn⟩
    clear start loop htold hT lT it s1 s2 s3 hS2 nT xs ds T hl0 s0 hS nl
    rintro m σ H4 ⟨T, xs, ds, t, pl, gd, rfl, hS4, hT, ll, it, rfl, hW, hpl⟩
    refine ⟨_, rfl, rfl, _, rfl, n2_ (fun hne => ?_) (fun he => ?_)⟩
    · have hsp : spots ds ≠ [] := by
        rcases hpl with h | h
        · exact absurd h.1 hne
        · exact h.2
      refine ⟨fun σ' H' => ∃ k, k < total ds ∧ Play K a ns told k σ' H', fun σ' H' h => h, ?_⟩
      -- place = _law_drawn(table, ..)
      refine ⟨_, rfl, _, rfl, _, rfl, _, _, rfl, rfl, ?_⟩
      refine ⟨a, ns, 6 + t, ?_, hS4, T, xs, ds, _, rfl, hT, ll, it, fun H5 s5 => ⟨fun h => absurd h hsp, fun u e he hu => ?_⟩⟩
      · show [V.ref a, V.int (6 + (t : Int))] = [V.ref a, V.int ((6 + t : Nat) : Int)]
        rw [show 6 + (t : Int) = ((6 + t : Nat) : Int) by omega]
      have hT5 := s5 _ _ hT
      have ll5 := ll.same s5
      -- a bite: winning where the good hand moves
      refine ⟨fun σ' H' => ∃ (u : Addr) (n : Nat) (d : List Int) (p : Nat × Nat) (gd : Option V), σ' = [some (.ref a), some (.ref T), some (.bl told), some (.int (t : Nat)), some (.ref u), gd] ∧ Same H5 H' ∧ H' u = some (.tup ((tri n p).map V.int)) ∧ ds[n]? = some d ∧ p ∈ bitesL d ∧
          (decide (xorL (worthsL (ds.set n (behindL d p.1 p.2))) ≠ 0) = !(decide (t % 2 = 0) == told)), ?_, ?_⟩
      · refine ⟨_, rfl, _, _, rfl, rfl, (by show (0 : Int) < 2; decide), rfl, _, rfl, rfl, _, rfl, ?_⟩
        show if decide (V.bl (decide (V.int ((t : Int) % 2) = V.int 0)) = V.bl told) = true then _ else _
        rw [bl_eq, odd_eq]
        cases hg : (decide (t % 2 = 0) == told) with
        | true =>
          rw [hg] at hW
          have hwin := win_there it (of_decide_eq_true hW)
          refine iteT ?_
          refine ⟨_, rfl, T, xs, ds, rfl, hT5, ll5, it, fun H6 p zs s6 np hp tp => ?_⟩
          refine ⟨_, rfl, Nat.zero_le _, fun l nl => ?_⟩
          have s7 : Same H6 (upd H6 l (.lst [])) := sNew nl
          have hl7 : upd H6 l (.lst []) l = some (.lst (([] : List Int).map V.int)) := upd_same
          generalize upd H6 l (.lst []) = H7 at s7 hl7 ⊢
          have tp7 := tp.keep (KT.same s7)
          refine ⟨_, _, dp_tl (SqL.of (s7 _ _ hp)) tp7, dp_list (SqL.of hl7), shaped_tups _, shaped_list _, _, rfl, ?_⟩
          rw [show PyData.eqv (.list (dT (winL ds))) (.list (dI [])) = decide (winL ds = []) from eqv_tl_nil _]
          refine dF_ hwin ?_
          obtain ⟨w0, ew⟩ : ∃ w0, (winL ds)[0]? = some w0 := by
            cases hw : winL ds with
            | nil => exact absurd hw hwin
            | cons w0 r => exact ⟨w0, rfl⟩
          obtain ⟨u2, gu2, hu2⟩ := tp7.get ew
          obtain ⟨n, d, b, h1, h2, h3, h4⟩ := mem_winFrom (List.mem_of_getElem? ew)
          rw [Nat.zero_add] at h4
          subst h4
          refine ⟨_, rfl, p, _, 0, .ref u2, rfl, rfl, SqL.of (s7 _ _ hp), atI_nat (j := 0) gu2, ?_⟩
          refine ⟨u2, n, d, b, _, rfl, s6.trans s7, hu2, h1, h2, ?_⟩
          rw [worths_set b h1, h3, Nat.xor_self]
          rfl
        | false =>
          rw [hg] at hW
          have h0 : xorL (worthsL ds) = 0 := by
            rcases Nat.eq_zero_or_pos (xorL (worthsL ds)) with z | z
            · exact z
            · exact absurd (of_decide_eq_false hW) (fun k => k (by omega))
          obtain ⟨n, d, b, h1, h2, rfl⟩ := mem_spots he
          refine iteF ⟨u, n, d, b, _, rfl, Same.refl _, hu, h1, h2, ?_⟩
          have hne2 : wB d b ≠ worthL d := fun z => by
            have hw := mex_spec ((bitesL d).map (wB d))
            rw [← worth_mex] at hw
            exact hw.1 (List.mem_map.mpr ⟨b, h2, z⟩)
          rw [worths_set b h1, h0, Nat.xor_comm 0, Nat.xor_zero]
          exact decide_eq_true fun z => hne2 (xor_zero_iff.mp z).symm
      -- table = moved(..)
      · rintro σ' H6 ⟨u, n, d, b, gd, rfl, s6, hu, h1, h2, h3⟩
        have ib := it.is d (List.mem_of_getElem? h1)
        have s46 := s5.trans s6
        refine ⟨_, rfl, _, rfl, u, _, 0, _, rfl, rfl, SqT.of hu, atI_nat (j := 0) rfl, _, rfl, u, _, 1, _, rfl, rfl, SqT.of hu, atI_nat (j := 1) rfl, _, rfl, u, _, 2, _, rfl, rfl, SqT.of hu, atI_nat (j := 2) rfl, ?_⟩
        refine ⟨T, xs, ds, n, d, b.1, b.2, rfl, s46 _ _ hT, ll.same s46, it, h1, h2, fun H7 T2 ys s7 nT2 hT2 l2 _ _ => ?_⟩
        have it2 := table_set it (n := n) (isBar_behind ib h2)
        have s47 := s46.trans s7
        refine ⟨_, rfl, _, _, rfl, rfl, ?_⟩
        refine ⟨_, rfl, T2, ys, _, 0, rfl, hT2, l2, it2, fun H8 s8 => ?_⟩
        have fin : ∀ pl : V, ((pl = .non ∧ spots (ds.set n (behindL d b.1 b.2)) = []) ∨ (pl ≠ .non ∧ spots (ds.set n (behindL d b.1 b.2)) ≠ [])) → ∃ k, k < total ds ∧ Play K a ns told k [some (.ref a), some (.ref T2), some (.bl told), some (.int ((t : Int) + 1)), some pl, gd] H8 := fun pl hpl => by
          refine ⟨_, total_set h1 (pieces_less h2), T2, ys, _, t + 1, pl, gd, rfl, (s47.trans s8).seq hS4, s8 _ _ hT2, l2.same s8, it2, rfl, ?_, hpl⟩
          rw [h3, even_next]
          cases decide (t % 2 = 0) <;> cases told <;> rfl
        exact ⟨fun h => fin .non (.inl ⟨rfl, h⟩), fun v e he hv => fin (.ref v) (.inr ⟨(by intro z; cases z), (by intro z; rw [z] at he; cases he)⟩)⟩
    · -- none is left: the good hand isn't the one that moves
      have hsp : spots ds = [] := by
        rcases hpl with h | h
        · exact h.2
        · exact absurd he h.1
      rw [spotsFrom_none hsp] at hW
      have hg : (decide (t % 2 = 0) == told) = false := hW.symm.trans (by decide)
      refine ⟨_, rfl, _, _, rfl, rfl, (by show (0 : Int) < 2; decide), rfl, _, rfl, rfl, ?_⟩
      have e : decide (V.bl (decide (V.int ((t : Int) % 2) = V.int 1)) = V.bl told) = true := by
        rw [bl_eq, odd_eq1]
        revert hg
        cases decide (t % 2 = 0) <;> cases told <;> decide
      show Q (V.bl (decide (V.bl (decide (V.int ((t : Int) % 2) = V.int 1)) = V.bl told))) _
      rw [e]
      exact q _
end
theorem all_mk {l : PySem.W.OpenLaw} {w : World} {K : PySem.W.Frag} {h : Heap} {mg : Str → Option Value} {fa f0 f1 f2 f3 f4 f5 f6 f7 f8 f9 f10 f11 f12 f13 f14 f15 f16 f17 : Addr} (X : K.In h) (G : h.Ns mainGlobals mg) (hfa : mg "law" = some (.ref fa))
    {od0 an0 od1 an1 od2 an2 od3 an3 od4 an4 od5 an5 od6 an6 od7 an7 od8 an8 od9 an9 od10 an10 od11 an11 od12 an12 od13 an13 od14 an14 od15 an15 od16 an16 od17 an17 : Option Addr} {sl0 sl1 sl2 sl3 sl4 sl5 sl6 sl7 sl8 sl9 sl10 sl11 sl12 sl13 sl14 sl15 sl16 sl17 : Array (Option Value)} {oc0 kV0 dc0 pm0 cd0 ct0 oc1 kV1 dc1 pm1 cd1 ct1 oc2 kV2 dc2 pm2 cd2 ct2 oc3 kV3 dc3 pm3 cd3 ct3 oc4 kV4 dc4 pm4 cd4 ct4 oc5 kV5 dc5 pm5 cd5 ct5 oc6 kV6 dc6 pm6 cd6 ct6 oc7 kV7 dc7 pm7 cd7 ct7 oc8 kV8 dc8 pm8 cd8 ct8 oc9 kV9 dc9 pm9 cd9 ct9 oc10 kV10 dc10 pm10 cd10 ct10 oc11 kV11 dc11 pm11 cd11 ct11 oc12 kV12 dc12 pm12 cd12 ct12 oc13 kV13 dc13 pm13 cd13 ct13 oc14 kV14 dc14 pm14 cd14 ct14 oc15 kV15 dc15 pm15 cd15 ct15 oc16 kV16 dc16 pm16 cd16 ct16 oc17 kV17 dc17 pm17 cd17 ct17 : Value}
    (a0 : PySem.W.nsIn K mainGlobals "is_bar" = some (some (.ref f0))) (l0 : K.lookup f0 = some ⟨oc0, od0, .func (PySem.W.fnOf "is_bar" "is_bar" (defArgs s_is_bar) (defBody s_is_bar) (defScope s_is_bar) .none kV0 dc0 pm0 an0 cd0 ct0), sl0⟩) (c0 : PySem.W.codeIn K cd0 "is_bar" = true) (k0 : PySem.W.keepIn K (.ref f0) = true)
    (a1 : PySem.W.nsIn K mainGlobals "asked_bar" = some (some (.ref f1))) (l1 : K.lookup f1 = some ⟨oc1, od1, .func (PySem.W.fnOf "asked_bar" "asked_bar" (defArgs s_asked_bar) (defBody s_asked_bar) (defScope s_asked_bar) .none kV1 dc1 pm1 an1 cd1 ct1), sl1⟩) (c1 : PySem.W.codeIn K cd1 "asked_bar" = true) (k1 : PySem.W.keepIn K (.ref f1) = true)
    (a2 : PySem.W.nsIn K mainGlobals "bites_of" = some (some (.ref f2))) (l2 : K.lookup f2 = some ⟨oc2, od2, .func (PySem.W.fnOf "bites_of" "bites_of" (defArgs s_bites_of) (defBody s_bites_of) (defScope s_bites_of) .none kV2 dc2 pm2 an2 cd2 ct2), sl2⟩) (c2 : PySem.W.codeIn K cd2 "bites_of" = true) (k2 : PySem.W.keepIn K (.ref f2) = true)
    (a3 : PySem.W.nsIn K mainGlobals "bites" = some (some (.ref f3))) (l3 : K.lookup f3 = some ⟨oc3, od3, .func (PySem.W.fnOf "bites" "bites" (defArgs s_bites) (defBody s_bites) (defScope s_bites) .none kV3 dc3 pm3 an3 cd3 ct3), sl3⟩) (c3 : PySem.W.codeIn K cd3 "bites" = true) (k3 : PySem.W.keepIn K (.ref f3) = true)
    (a4 : PySem.W.nsIn K mainGlobals "behind" = some (some (.ref f4))) (l4 : K.lookup f4 = some ⟨oc4, od4, .func (PySem.W.fnOf "behind" "behind" (defArgs s_behind) (defBody s_behind) (defScope s_behind) .none kV4 dc4 pm4 an4 cd4 ct4), sl4⟩) (c4 : PySem.W.codeIn K cd4 "behind" = true) (k4 : PySem.W.keepIn K (.ref f4) = true)
    (a5 : PySem.W.nsIn K mainGlobals "added" = some (some (.ref f5))) (l5 : K.lookup f5 = some ⟨oc5, od5, .func (PySem.W.fnOf "added" "added" (defArgs s_added) (defBody s_added) (defScope s_added) .none kV5 dc5 pm5 an5 cd5 ct5), sl5⟩) (c5 : PySem.W.codeIn K cd5 "added" = true) (k5 : PySem.W.keepIn K (.ref f5) = true)
    (a6 : PySem.W.nsIn K mainGlobals "worth_of" = some (some (.ref f6))) (l6 : K.lookup f6 = some ⟨oc6, od6, .func (PySem.W.fnOf "worth_of" "worth_of" (defArgs s_worth_of) (defBody s_worth_of) (defScope s_worth_of) .none kV6 dc6 pm6 an6 cd6 ct6), sl6⟩) (c6 : PySem.W.codeIn K cd6 "worth_of" = true) (k6 : PySem.W.keepIn K (.ref f6) = true)
    (a7 : PySem.W.nsIn K mainGlobals "asked_table" = some (some (.ref f7))) (l7 : K.lookup f7 = some ⟨oc7, od7, .func (PySem.W.fnOf "asked_table" "asked_table" (defArgs s_asked_table) (defBody s_asked_table) (defScope s_asked_table) .none kV7 dc7 pm7 an7 cd7 ct7), sl7⟩) (c7 : PySem.W.codeIn K cd7 "asked_table" = true) (k7 : PySem.W.keepIn K (.ref f7) = true)
    (a8 : PySem.W.nsIn K mainGlobals "together_of" = some (some (.ref f8))) (l8 : K.lookup f8 = some ⟨oc8, od8, .func (PySem.W.fnOf "together_of" "together_of" (defArgs s_together_of) (defBody s_together_of) (defScope s_together_of) .none kV8 dc8 pm8 an8 cd8 ct8), sl8⟩) (c8 : PySem.W.codeIn K cd8 "together_of" = true) (k8 : PySem.W.keepIn K (.ref f8) = true)
    (a9 : PySem.W.nsIn K mainGlobals "together" = some (some (.ref f9))) (l9 : K.lookup f9 = some ⟨oc9, od9, .func (PySem.W.fnOf "together" "together" (defArgs s_together) (defBody s_together) (defScope s_together) .none kV9 dc9 pm9 an9 cd9 ct9), sl9⟩) (c9 : PySem.W.codeIn K cd9 "together" = true) (k9 : PySem.W.keepIn K (.ref f9) = true)
    (a10 : PySem.W.nsIn K mainGlobals "wins" = some (some (.ref f10))) (l10 : K.lookup f10 = some ⟨oc10, od10, .func (PySem.W.fnOf "wins" "wins" (defArgs s_wins) (defBody s_wins) (defScope s_wins) .none kV10 dc10 pm10 an10 cd10 ct10), sl10⟩) (c10 : PySem.W.codeIn K cd10 "wins" = true) (k10 : PySem.W.keepIn K (.ref f10) = true)
    (a11 : PySem.W.nsIn K mainGlobals "winning" = some (some (.ref f11))) (l11 : K.lookup f11 = some ⟨oc11, od11, .func (PySem.W.fnOf "winning" "winning" (defArgs s_winning) (defBody s_winning) (defScope s_winning) .none kV11 dc11 pm11 an11 cd11 ct11), sl11⟩) (c11 : PySem.W.codeIn K cd11 "winning" = true) (k11 : PySem.W.keepIn K (.ref f11) = true)
    (a12 : PySem.W.nsIn K mainGlobals "moved" = some (some (.ref f12))) (l12 : K.lookup f12 = some ⟨oc12, od12, .func (PySem.W.fnOf "moved" "moved" (defArgs s_moved) (defBody s_moved) (defScope s_moved) .none kV12 dc12 pm12 an12 cd12 ct12), sl12⟩) (c12 : PySem.W.codeIn K cd12 "moved" = true) (k12 : PySem.W.keepIn K (.ref f12) = true)
    (a13 : PySem.W.nsIn K mainGlobals "_law_cell_at" = some (some (.ref f13))) (l13 : K.lookup f13 = some ⟨oc13, od13, .func (PySem.W.fnOf "_law_cell_at" "_law_cell_at" (defArgs s_law_cell_at) (defBody s_law_cell_at) (defScope s_law_cell_at) .none kV13 dc13 pm13 an13 cd13 ct13), sl13⟩) (c13 : PySem.W.codeIn K cd13 "_law_cell_at" = true) (k13 : PySem.W.keepIn K (.ref f13) = true)
    (a14 : PySem.W.nsIn K mainGlobals "_law_bar_by" = some (some (.ref f14))) (l14 : K.lookup f14 = some ⟨oc14, od14, .func (PySem.W.fnOf "_law_bar_by" "_law_bar_by" (defArgs s_law_bar_by) (defBody s_law_bar_by) (defScope s_law_bar_by) .none kV14 dc14 pm14 an14 cd14 ct14), sl14⟩) (c14 : PySem.W.codeIn K cd14 "_law_bar_by" = true) (k14 : PySem.W.keepIn K (.ref f14) = true)
    (a15 : PySem.W.nsIn K mainGlobals "_law_table_by" = some (some (.ref f15))) (l15 : K.lookup f15 = some ⟨oc15, od15, .func (PySem.W.fnOf "_law_table_by" "_law_table_by" (defArgs s_law_table_by) (defBody s_law_table_by) (defScope s_law_table_by) .none kV15 dc15 pm15 an15 cd15 ct15), sl15⟩) (c15 : PySem.W.codeIn K cd15 "_law_table_by" = true) (k15 : PySem.W.keepIn K (.ref f15) = true)
    (a16 : PySem.W.nsIn K mainGlobals "_law_drawn" = some (some (.ref f16))) (l16 : K.lookup f16 = some ⟨oc16, od16, .func (PySem.W.fnOf "_law_drawn" "_law_drawn" (defArgs s_law_drawn) (defBody s_law_drawn) (defScope s_law_drawn) .none kV16 dc16 pm16 an16 cd16 ct16), sl16⟩) (c16 : PySem.W.codeIn K cd16 "_law_drawn" = true) (k16 : PySem.W.keepIn K (.ref f16) = true)
    (a17 : PySem.W.nsIn K mainGlobals "law" = some (some (.ref f17))) (l17 : K.lookup f17 = some ⟨oc17, od17, .func (PySem.W.fnOf "law" "law" (defArgs s_law) (defBody s_law) (defScope s_law) .none kV17 dc17 pm17 an17 cd17 ct17), sl17⟩) (c17 : PySem.W.codeIn K cd17 "law" = true) (k17 : PySem.W.keepIn K (.ref f17) = true)
    (z_len : PySem.W.nsIn K mainGlobals "len" = some none)
    (z_range : PySem.W.nsIn K mainGlobals "range" = some none)
    (z_int : PySem.W.nsIn K mainGlobals "int" = some none)
    (z_list : PySem.W.nsIn K mainGlobals "list" = some none)
    (z_min : PySem.W.nsIn K mainGlobals "min" = some none)
    (z_tuple : PySem.W.nsIn K mainGlobals "tuple" = some none)
    (z_enumerate : PySem.W.nsIn K mainGlobals "enumerate" = some none)
    (z_sorted : PySem.W.nsIn K mainGlobals "sorted" = some none)
    {t_MOST_ROWS : Tok} (y_MOST_ROWS : PySem.W.nsIn K mainGlobals "MOST_ROWS" = some (some (.int 5 t_MOST_ROWS)))
    {t_MOST_PIECES : Tok} (y_MOST_PIECES : PySem.W.nsIn K mainGlobals "MOST_PIECES" = some (some (.int 5 t_MOST_PIECES)))
    {t_MOST : Tok} (y_MOST : PySem.W.nsIn K mainGlobals "MOST" = some (some (.int 3 t_MOST)))
    : ∃ fd : FuncData, (∀ (s : Shared) (v : Value), BindsTo s fd ⟨[v], []⟩ [("script", v)]) ∧ ∀ base : Heap, K.In base → base.Ns mainGlobals mg → FnOk l.prog w K mg base CX0 60 fa fd ["script"] (sp_law K) := by
  have e := hfa.symm.trans (PySem.W.mg_of X G a17)
  cases e
  have m_len := PySem.W.mg_none_of X G z_len
  have m_range := PySem.W.mg_none_of X G z_range
  have m_int := PySem.W.mg_none_of X G z_int
  have m_list := PySem.W.mg_none_of X G z_list
  have m_min := PySem.W.mg_none_of X G z_min
  have m_tuple := PySem.W.mg_none_of X G z_tuple
  have m_enumerate := PySem.W.mg_none_of X G z_enumerate
  have m_sorted := PySem.W.mg_none_of X G z_sorted
  have g_MOST_ROWS := PySem.W.mg_of X G y_MOST_ROWS
  have g_MOST_PIECES := PySem.W.mg_of X G y_MOST_PIECES
  have g_MOST := PySem.W.mg_of X G y_MOST
  have F0 := fun_mk (st := s_is_bar) l0 c0 k0
  have b0 := F0.binds (ps := ["bar"]) fun _ _ _ _ _ _ us hl => match us, hl with | [_], _ => rfl
  have F1 := fun_mk (st := s_asked_bar) l1 c1 k1
  have b1 := F1.binds (ps := ["bar"]) fun _ _ _ _ _ _ us hl => match us, hl with | [_], _ => rfl
  have F2 := fun_mk (st := s_bites_of) l2 c2 k2
  have b2 := F2.binds (ps := ["bar"]) fun _ _ _ _ _ _ us hl => match us, hl with | [_], _ => rfl
  have F3 := fun_mk (st := s_bites) l3 c3 k3
  have b3 := F3.binds (ps := ["bar"]) fun _ _ _ _ _ _ us hl => match us, hl with | [_], _ => rfl
  have F4 := fun_mk (st := s_behind) l4 c4 k4
  have b4 := F4.binds (ps := ["bar", "row", "column"]) fun _ _ _ _ _ _ us hl => match us, hl with | [_, _, _], _ => rfl
  have F5 := fun_mk (st := s_added) l5 c5 k5
  have b5 := F5.binds (ps := ["one", "other"]) fun _ _ _ _ _ _ us hl => match us, hl with | [_, _], _ => rfl
  have F6 := fun_mk (st := s_worth_of) l6 c6 k6
  have b6 := F6.binds (ps := ["bar", "known"]) fun _ _ _ _ _ _ us hl => match us, hl with | [_, _], _ => rfl
  have F7 := fun_mk (st := s_asked_table) l7 c7 k7
  have b7 := F7.binds (ps := ["table"]) fun _ _ _ _ _ _ us hl => match us, hl with | [_], _ => rfl
  have F8 := fun_mk (st := s_together_of) l8 c8 k8
  have b8 := F8.binds (ps := ["table", "known"]) fun _ _ _ _ _ _ us hl => match us, hl with | [_, _], _ => rfl
  have F9 := fun_mk (st := s_together) l9 c9 k9
  have b9 := F9.binds (ps := ["table"]) fun _ _ _ _ _ _ us hl => match us, hl with | [_], _ => rfl
  have F10 := fun_mk (st := s_wins) l10 c10 k10
  have b10 := F10.binds (ps := ["table"]) fun _ _ _ _ _ _ us hl => match us, hl with | [_], _ => rfl
  have F11 := fun_mk (st := s_winning) l11 c11 k11
  have b11 := F11.binds (ps := ["table"]) fun _ _ _ _ _ _ us hl => match us, hl with | [_], _ => rfl
  have F12 := fun_mk (st := s_moved) l12 c12 k12
  have b12 := F12.binds (ps := ["table", "number", "row", "column"]) fun _ _ _ _ _ _ us hl => match us, hl with | [_, _, _, _], _ => rfl
  have F13 := fun_mk (st := s_law_cell_at) l13 c13 k13
  have b13 := F13.binds (ps := ["script", "k"]) fun _ _ _ _ _ _ us hl => match us, hl with | [_, _], _ => rfl
  have F14 := fun_mk (st := s_law_bar_by) l14 c14 k14
  have b14 := F14.binds (ps := ["cell", "most"]) fun _ _ _ _ _ _ us hl => match us, hl with | [_, _], _ => rfl
  have F15 := fun_mk (st := s_law_table_by) l15 c15 k15
  have b15 := F15.binds (ps := ["script", "at", "most"]) fun _ _ _ _ _ _ us hl => match us, hl with | [_, _, _], _ => rfl
  have F16 := fun_mk (st := s_law_drawn) l16 c16 k16
  have b16 := F16.binds (ps := ["table", "cell"]) fun _ _ _ _ _ _ us hl => match us, hl with | [_, _], _ => rfl
  have F17 := fun_mk (st := s_law) l17 c17 k17
  refine ⟨PySem.W.fnOf "law" "law" (defArgs s_law) (defBody s_law) (defScope s_law) .none kV17 dc17 pm17 an17 cd17 ct17, fun s v => .of_eq rfl, fun base _ _ => ?_⟩
  have C_is_bar := Cal.mk ⟨_, _, ok_is_bar (P := l.prog) (w := w) (base := base) F0 (m_len := m_len) (g_MOST_ROWS := g_MOST_ROWS) (g_MOST_PIECES := g_MOST_PIECES), PySem.W.mg_of X G a0, k0, b0⟩
  have C_asked_bar := Cal.mk ⟨_, _, ok_asked_bar (P := l.prog) (w := w) (base := base) F1 (C_is_bar := C_is_bar), PySem.W.mg_of X G a1, k1, b1⟩
  have C_bites_of := Cal.mk ⟨_, _, ok_bites_of (P := l.prog) (w := w) (base := base) F2 (m_len := m_len) (m_range := m_range) (m_int := m_int), PySem.W.mg_of X G a2, k2, b2⟩
  have C_bites := Cal.mk ⟨_, _, ok_bites (P := l.prog) (w := w) (base := base) F3 (C_asked_bar := C_asked_bar) (C_bites_of := C_bites_of), PySem.W.mg_of X G a3, k3, b3⟩
  have C_behind := Cal.mk ⟨_, _, ok_behind (P := l.prog) (w := w) (base := base) F4 (m_list := m_list) (m_min := m_min), PySem.W.mg_of X G a4, k4, b4⟩
  have C_added := Cal.mk ⟨_, _, ok_added (P := l.prog) (w := w) (base := base) F5, PySem.W.mg_of X G a5, k5, b5⟩
  have C_worth_of := ok_worth_of (P := l.prog) (w := w) (base := base) F6 b6 (PySem.W.mg_of X G a6) (m_tuple := m_tuple) (C_bites_of := C_bites_of) (C_behind := C_behind)
  have C_asked_table := Cal.mk ⟨_, _, ok_asked_table (P := l.prog) (w := w) (base := base) F7 (m_len := m_len) (g_MOST := g_MOST) (C_asked_bar := C_asked_bar), PySem.W.mg_of X G a7, k7, b7⟩
  have C_together_of := Cal.mk ⟨_, _, ok_together_of (P := l.prog) (w := w) (base := base) F8 (C_added := C_added) (C_worth_of := C_worth_of), PySem.W.mg_of X G a8, k8, b8⟩
  have C_together := Cal.mk ⟨_, _, ok_together (P := l.prog) (w := w) (base := base) F9 (C_asked_table := C_asked_table) (C_together_of := C_together_of), PySem.W.mg_of X G a9, k9, b9⟩
  have C_wins := Cal.mk ⟨_, _, ok_wins (P := l.prog) (w := w) (base := base) F10 (C_together := C_together), PySem.W.mg_of X G a10, k10, b10⟩
  have C_winning := Cal.mk ⟨_, _, ok_winning (P := l.prog) (w := w) (base := base) F11 (m_enumerate := m_enumerate) (C_asked_table := C_asked_table) (C_together_of := C_together_of) (C_added := C_added) (C_worth_of := C_worth_of) (C_bites_of := C_bites_of) (C_behind := C_behind), PySem.W.mg_of X G a11, k11, b11⟩
  have C_moved := Cal.mk ⟨_, _, ok_moved (P := l.prog) (w := w) (base := base) F12 (m_len := m_len) (m_list := m_list) (C_asked_table := C_asked_table) (C_bites_of := C_bites_of) (C_behind := C_behind), PySem.W.mg_of X G a12, k12, b12⟩
  have C_law_cell_at := Cal.mk ⟨_, _, ok_law_cell_at (P := l.prog) (w := w) (base := base) F13 (m_len := m_len), PySem.W.mg_of X G a13, k13, b13⟩
  have C_law_bar_by := Cal.mk ⟨_, _, ok_law_bar_by (P := l.prog) (w := w) (base := base) F14 (m_range := m_range) (m_sorted := m_sorted), PySem.W.mg_of X G a14, k14, b14⟩
  have C_law_table_by := Cal.mk ⟨_, _, ok_law_table_by (P := l.prog) (w := w) (base := base) F15 (m_range := m_range) (C_law_cell_at := C_law_cell_at) (C_law_bar_by := C_law_bar_by), PySem.W.mg_of X G a15, k15, b15⟩
  have C_law_drawn := Cal.mk ⟨_, _, ok_law_drawn (P := l.prog) (w := w) (base := base) F16 (m_len := m_len) (m_range := m_range) (C_bites := C_bites), PySem.W.mg_of X G a16, k16, b16⟩
  exact (ok_law (P := l.prog) (w := w) (base := base) F17 (C_law_table_by := C_law_table_by) (C_law_cell_at := C_law_cell_at) (C_wins := C_wins) (C_law_drawn := C_law_drawn) (C_winning := C_winning) (C_moved := C_moved)).mono (by decide)
end Bb
open PySem PySem.W PyProof.Rows
set_option maxRecDepth 100000 in
set_option maxHeartbeats 0 in
theorem PySem.Challenge.cw_bitebar_k12_whole_played_holds : PySem.Challenge.rw_bitebar_k12_whole_played.Holds := by
  w_on; o_law; k_head; (case hw => w_witness2)
  k_fill
  refine L2.walk_of (l := PySem.Challenge.rw_bitebar_k12_whole_played) (n := 63) (k := 60) (x := "script") (CX := fun _ => L2.CX0) (sp := fun w => Bb.sp_law _) rfl (by decide) rfl ⟨rfl, by decide, by decide⟩ (fun w h Y => PySem.W.kIn_of Y) ?F (fun _ H a ns hl _ hS => ⟨a, ns, rfl, hS, hl, fun _ => rfl⟩) (fun _ _ _ _ _ h => h)
  case F =>
    intro w mg fa h KX G hmg
    refine' Bb.all_mk KX G hmg ?a0 ?l0 ?c0 ?k0 ?a1 ?l1 ?c1 ?k1 ?a2 ?l2 ?c2 ?k2 ?a3 ?l3 ?c3 ?k3 ?a4 ?l4 ?c4 ?k4 ?a5 ?l5 ?c5 ?k5 ?a6 ?l6 ?c6 ?k6 ?a7 ?l7 ?c7 ?k7 ?a8 ?l8 ?c8 ?k8 ?a9 ?l9 ?c9 ?k9 ?a10 ?l10 ?c10 ?k10 ?a11 ?l11 ?c11 ?k11 ?a12 ?l12 ?c12 ?k12 ?a13 ?l13 ?c13 ?k13 ?a14 ?l14 ?c14 ?k14 ?a15 ?l15 ?c15 ?k15 ?a16 ?l16 ?c16 ?k16 ?a17 ?l17 ?c17 ?k17 ?z_len ?z_range ?z_int ?z_list ?z_min ?z_tuple ?z_enumerate ?z_sorted ?y_MOST_ROWS ?y_MOST_PIECES ?y_MOST
    (case a0 => k_is); (case l0 => k_is); (case c0 => k_is); (case k0 => k_is); (case a1 => k_is); (case l1 => k_is); (case c1 => k_is); (case k1 => k_is); (case a2 => k_is); (case l2 => k_is); (case c2 => k_is); (case k2 => k_is); (case a3 => k_is); (case l3 => k_is); (case c3 => k_is); (case k3 => k_is); (case a4 => k_is); (case l4 => k_is); (case c4 => k_is); (case k4 => k_is); (case a5 => k_is); (case l5 => k_is); (case c5 => k_is); (case k5 => k_is); (case a6 => k_is); (case l6 => k_is); (case c6 => k_is); (case k6 => k_is); (case a7 => k_is); (case l7 => k_is); (case c7 => k_is); (case k7 => k_is); (case a8 => k_is); (case l8 => k_is); (case c8 => k_is); (case k8 => k_is); (case a9 => k_is); (case l9 => k_is); (case c9 => k_is); (case k9 => k_is); (case a10 => k_is); (case l10 => k_is); (case c10 => k_is); (case k10 => k_is); (case a11 => k_is); (case l11 => k_is); (case c11 => k_is); (case k11 => k_is); (case a12 => k_is); (case l12 => k_is); (case c12 => k_is); (case k12 => k_is); (case a13 => k_is); (case l13 => k_is); (case c13 => k_is); (case k13 => k_is); (case a14 => k_is); (case l14 => k_is); (case c14 => k_is); (case k14 => k_is); (case a15 => k_is); (case l15 => k_is); (case c15 => k_is); (case k15 => k_is); (case a16 => k_is); (case l16 => k_is); (case c16 => k_is); (case k16 => k_is); (case a17 => k_is); (case l17 => k_is); (case c17 => k_is); (case k17 => k_is); (case z_len => k_is); (case z_range => k_is); (case z_int => k_is); (case z_list => k_is); (case z_min => k_is); (case z_tuple => k_is); (case z_enumerate => k_is); (case z_sorted => k_is); (case y_MOST_ROWS => k_is); (case y_MOST_PIECES => k_is); (case y_MOST => k_is)
#print axioms PySem.Challenge.cw_bitebar_k12_whole_played_holds
