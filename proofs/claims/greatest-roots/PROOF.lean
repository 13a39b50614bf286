import PyProof.Rows.All
import Wide.All
import OpenK.AllK
import Wide.FinOn
import HandS.ForMost
import HandS.Nested
import HandS.IsInst
import HandS.More
import HandS.Wide
import HandS.WideBits
import HandS.TupAny
import HandS.TupMul
import HandS.Deep
import HandS.Walk
import KE.SortKeyHeap
import HandS.SortKw
import HandS.Keys
import HandS.Conv
import HandS.NestedK
import KE.GoesMore
import HandS.Iter
import PyProof.ReprRoads
import PyProof.ReprBulk
import HandS.EndTab
import HandS.EndBits
import KE.KNestM
import PySem.Challenge.RW_sealedplans_k55_whole_greatest_roots
set_option Elab.async false
set_option linter.all false
set_option maxRecDepth 100000
set_option maxHeartbeats 4000000
/-! The text by places: each def of the row's top, by its number. -/
namespace G6
open PySem PySem.Spec PyProof.Rows L2
abbrev PR : Program := PySem.Challenge.pw_sealedplans_k55_whole_greatest_roots
def topS (i : Nat) : Stmt := PR.main.body.getD i (.Pass ⟨0, 0, 0, 0⟩)
abbrev sIsInteger : Stmt := topS 7
abbrev sIsWithin : Stmt := topS 8
abbrev sIsPair : Stmt := topS 9
abbrev sIsTriple : Stmt := topS 10
abbrev sIsWord : Stmt := topS 11
abbrev sIsDoor : Stmt := topS 12
abbrev sIsPart : Stmt := topS 13
abbrev sIsPlanIn : Stmt := topS 14
abbrev sCheckPlan : Stmt := topS 15
abbrev sCheckCount : Stmt := topS 16
abbrev sPartKey : Stmt := topS 19
abbrev sPlanKey : Stmt := topS 20
abbrev sSortedItems : Stmt := topS 21
abbrev sMapped : Stmt := topS 23
abbrev sRaised : Stmt := topS 24
abbrev sFolded : Stmt := topS 26
abbrev sPlainOf : Stmt := topS 27
abbrev sBag : Stmt := topS 30
abbrev sRootOf : Stmt := topS 31
abbrev sTimes : Stmt := topS 32
abbrev sRoot : Stmt := topS 33
abbrev sGreatestRoot : Stmt := topS 34
abbrev sLawTape : Stmt := topS 36
abbrev sLawPick : Stmt := topS 37
abbrev sLawPlan : Stmt := topS 38
abbrev sLawPart : Stmt := topS 39
abbrev sLawPartSize : Stmt := topS 40
abbrev sLawSize : Stmt := topS 41
abbrev sLawRaise : Stmt := topS 42
abbrev sLawKey : Stmt := topS 43
abbrev sLawJoined : Stmt := topS 44
abbrev sLawForm : Stmt := topS 45
abbrev sLawSame : Stmt := topS 46
abbrev sLawHidden : Stmt := topS 47
abbrev sLawScaled : Stmt := topS 48
abbrev sLawShared : Stmt := topS 49
abbrev sLaw : Stmt := topS 50
end G6

set_option autoImplicit false
/-! Plans as plain Lean data: sizes, the order of parts, canonical plans. No program in sight. -/
namespace G6
/-- a part: a name, a got, or a box (letter: false, wait: true) at a door -/
inductive Pt where
  | name (x : List Nat)
  | got (d : Nat)
  | box (w : Bool) (door : List Nat) (body : List (Nat × Pt))
abbrev Pl := List (Nat × Pt)
theorem lt_body {w : Bool} {d : List Nat} {b : Pl} {q : Nat × Pt} (h : q ∈ b) : sizeOf q.2 < sizeOf (Pt.box w d b) := by
  have h1 := List.sizeOf_lt_of_mem h
  obtain ⟨c, p⟩ := q
  simp only [Pt.box.sizeOf_spec, Prod.mk.sizeOf_spec] at *
  omega
theorem Pt.ind {P : Pt → Prop} (h1 : ∀ x, P (.name x)) (h2 : ∀ d, P (.got d)) (h3 : ∀ w d b, (∀ q ∈ b, P q.2) → P (.box w d b)) : (p : Pt) → P p
  | .name x => h1 x
  | .got d => h2 d
  | .box w d b => h3 w d b fun q hq => Pt.ind h1 h2 h3 q.2
termination_by p => sizeOf p
decreasing_by exact lt_body hq
/-! ### sizes -/
mutual
def sz : Pt → Nat
  | .name _ => 1
  | .got _ => 1
  | .box _ _ b => 1 + szL b
def szL : List (Nat × Pt) → Nat
  | [] => 0
  | (c, p) :: r => c * sz p + szL r
end
theorem szL_nil : szL [] = 0 := by rw [szL]
theorem szL_cons (c : Nat) (p : Pt) (r : Pl) : szL ((c, p) :: r) = c * sz p + szL r := by rw [szL]
theorem sz_box (w : Bool) (d : List Nat) (b : Pl) : sz (.box w d b) = 1 + szL b := by rw [sz]
theorem sz_pos (p : Pt) : 1 ≤ sz p := by
  cases p <;> simp only [sz] <;> omega
theorem szL_append (a b : Pl) : szL (a ++ b) = szL a + szL b := by
  induction a with
  | nil => rw [List.nil_append, szL_nil, Nat.zero_add]
  | cons q r ih =>
    obtain ⟨c, p⟩ := q
    rw [List.cons_append, szL_cons, szL_cons, ih]
    omega
/-! ### the order, by rows of signs -/
def rank : Pt → Nat
  | .name _ => 0
  | .got _ => 2
  | .box false _ _ => 3
  | .box true _ _ => 4
def lab (x : List Nat) : List Nat := x.map (· + 1) ++ [0]
mutual
def toks : Pt → List Nat
  | .name x => 1 :: 0 :: (lab x ++ [0])
  | .got d => 1 :: 2 :: d :: [0]
  | .box w d b => (1 + szL b) :: (if w = true then 4 else 3) :: (lab d ++ toksL b)
def toksL : List (Nat × Pt) → List Nat
  | [] => [0]
  | (c, p) :: r => 1 :: (toks p ++ c :: toksL r)
end
theorem toksL_nil : toksL [] = [0] := by rw [toksL]
theorem toksL_cons (c : Nat) (p : Pt) (r : Pl) : toksL ((c, p) :: r) = 1 :: (toks p ++ c :: toksL r) := by rw [toksL]
theorem toks_name (x : List Nat) : toks (.name x) = 1 :: 0 :: (lab x ++ [0]) := by rw [toks]
theorem toks_got (d : Nat) : toks (.got d) = 1 :: 2 :: d :: [0] := by rw [toks]
theorem toks_box (w : Bool) (d : List Nat) (b : Pl) : toks (.box w d b) = (1 + szL b) :: (if w = true then 4 else 3) :: (lab d ++ toksL b) := by rw [toks]
theorem lab_code : ∀ (x y r s : List Nat), lab x ++ r = lab y ++ s → x = y ∧ r = s
  | [], [], r, s, h => by
    simp only [lab, List.map_nil, List.nil_append, List.cons_append, List.cons.injEq, true_and] at h
    exact ⟨rfl, h⟩
  | [], b :: y, r, s, h => by simp [lab] at h
  | a :: x, [], r, s, h => by simp [lab] at h
  | a :: x, b :: y, r, s, h => by
    simp only [lab, List.map_cons, List.cons_append, List.cons.injEq] at h
    obtain ⟨e1, e2⟩ := lab_code x y r s (by simpa [lab] using h.2)
    exact ⟨by rw [e1, show a = b by omega], e2⟩
theorem toksL_code_of {b : Pl} (ih : ∀ q ∈ b, ∀ (t : Pt) (r s : List Nat), toks q.2 ++ r = toks t ++ s → q.2 = t ∧ r = s) : ∀ (b' : Pl) (r s : List Nat), toksL b ++ r = toksL b' ++ s → b = b' ∧ r = s := by
  induction b with
  | nil =>
    intro b' r s h
    cases b' with
    | nil =>
      rw [toksL_nil] at h
      exact ⟨rfl, by simpa using h⟩
    | cons q b' =>
      obtain ⟨c, p⟩ := q
      rw [toksL_nil, toksL_cons] at h
      simp at h
  | cons q b hb =>
    intro b' r s h
    obtain ⟨c, p⟩ := q
    cases b' with
    | nil =>
      rw [toksL_nil, toksL_cons] at h
      simp at h
    | cons q' b' =>
      obtain ⟨c', p'⟩ := q'
      rw [toksL_cons, toksL_cons] at h
      simp only [List.cons_append, List.cons.injEq, true_and, List.append_assoc] at h
      obtain ⟨e1, e2⟩ := ih (c, p) (List.mem_cons_self ..) p' _ _ h
      simp only [List.cons.injEq] at e2
      obtain ⟨e3, e4⟩ := hb (fun q hq => ih q (List.mem_cons_of_mem _ hq)) b' r s e2.2
      have e1' : p = p' := e1
      rw [e1', e2.1, e3]
      exact ⟨rfl, e4⟩
theorem toks_code : ∀ (p q : Pt) (r s : List Nat), toks p ++ r = toks q ++ s → p = q ∧ r = s := by
  refine Pt.ind (fun x q r s h => ?_) (fun d q r s h => ?_) (fun w d b ih q r s h => ?_)
  · cases q with
    | name y =>
      rw [toks_name, toks_name] at h
      simp only [List.cons_append, List.cons.injEq, true_and, List.append_assoc] at h
      obtain ⟨e1, e2⟩ := lab_code x y _ _ h
      exact ⟨by rw [e1], by simpa using e2⟩
    | got e =>
      rw [toks_name, toks_got] at h
      simp at h
    | box w e b =>
      rw [toks_name, toks_box] at h
      cases w <;> simp at h
  · cases q with
    | name y =>
      rw [toks_name, toks_got] at h
      simp at h
    | got e =>
      rw [toks_got, toks_got] at h
      simp only [List.cons_append, List.cons.injEq, true_and, List.nil_append] at h
      exact ⟨by rw [h.1], h.2⟩
    | box w e b =>
      rw [toks_got, toks_box] at h
      cases w <;> simp at h
  · cases q with
    | name y =>
      rw [toks_name, toks_box] at h
      cases w <;> simp at h
    | got e =>
      rw [toks_got, toks_box] at h
      cases w <;> simp at h
    | box w' e b' =>
      rw [toks_box, toks_box] at h
      simp only [List.cons_append, List.cons.injEq, List.append_assoc] at h
      obtain ⟨h1, h2, h3⟩ := h
      obtain ⟨e1, e2⟩ := lab_code d e _ _ h3
      obtain ⟨e3, e4⟩ := toksL_code_of ih b' r s e2
      have ew : w = w' := by cases w <;> cases w' <;> simp_all
      rw [e1, e3, ew]
      exact ⟨rfl, e4⟩
theorem toks_inj {p q : Pt} (h : toks p = toks q) : p = q := (toks_code p q [] [] (by rw [h])).1
instance : DecidableEq Pt := fun a b => decidable_of_iff (toks a = toks b) ⟨toks_inj, fun e => by rw [e]⟩
theorem toksL_code (b b' : Pl) (r s : List Nat) (h : toksL b ++ r = toksL b' ++ s) : b = b' ∧ r = s := toksL_code_of (fun q _ => toks_code q.2) b' r s h
theorem toksL_inj {b b' : Pl} (h : toksL b = toksL b') : b = b' := (toksL_code b b' [] [] (by rw [h])).1
/-- p comes ahead of q -/
def lt (p q : Pt) : Prop := toks p < toks q
instance (p q : Pt) : Decidable (lt p q) := inferInstanceAs (Decidable (toks p < toks q))
theorem lt_irrefl (p : Pt) : ¬ lt p p := List.lt_irrefl _
theorem lt_trans {p q r : Pt} (h1 : lt p q) (h2 : lt q r) : lt p r := List.lt_trans h1 h2
theorem lt_total {p q : Pt} (h1 : ¬ lt p q) (h2 : ¬ lt q p) : p = q := toks_inj (List.le_antisymm (List.not_lt.mp h2) (List.not_lt.mp h1))
theorem lt_ne {p q : Pt} (h : lt p q) : p ≠ q := fun e => lt_irrefl q (by rw [e] at h; exact h)
theorem lt_asymm {p q : Pt} (h : lt p q) : ¬ lt q p := fun z => lt_irrefl p (lt_trans h z)
theorem not_lt_trans {p q r : Pt} (h1 : ¬ lt q p) (h2 : ¬ lt r q) : ¬ lt r p := fun z => by
  by_cases h : lt p q
  · exact h2 (lt_trans z h)
  · have e := lt_total h h1
    subst e
    exact h2 z
/-! rows that part from one another -/
theorem row_lt : ∀ (a b r s : List Nat), (∀ t, a ≠ b ++ t) → (∀ t, b ≠ a ++ t) → (a ++ r < b ++ s ↔ a < b)
  | [], b, r, s, _, h2 => absurd rfl (h2 b)
  | a :: x, [], r, s, h1, _ => absurd rfl (h1 (a :: x))
  | a :: x, b :: y, r, s, h1, h2 => by
    rw [List.cons_append, List.cons_append, List.cons_lt_cons_iff, List.cons_lt_cons_iff]
    by_cases e : a = b
    · subst e
      have ih := row_lt x y r s (fun t z => h1 t (by rw [z]; rfl)) (fun t z => h2 t (by rw [z]; rfl))
      rw [ih]
    · constructor
      · rintro (h | ⟨h, _⟩)
        · exact .inl h
        · exact absurd h e
      · rintro (h | ⟨h, _⟩)
        · exact .inl h
        · exact absurd h e
theorem toks_row {p q : Pt} (h : p ≠ q) (r s : List Nat) : toks p ++ r < toks q ++ s ↔ lt p q :=
  row_lt _ _ r s (fun t z => h (toks_code p q [] t (by rw [List.append_nil]; exact z)).1) fun t z => h (toks_code p q t [] (by rw [List.append_nil]; exact z.symm)).1
theorem toksL_row {b b' : Pl} (h : b ≠ b') (r s : List Nat) : toksL b ++ r < toksL b' ++ s ↔ toksL b < toksL b' :=
  row_lt _ _ r s (fun t z => h (toksL_code b b' [] t (by rw [List.append_nil]; exact z)).1) fun t z => h (toksL_code b b' t [] (by rw [List.append_nil]; exact z.symm)).1
theorem row_same : ∀ (a r s : List Nat), a ++ r < a ++ s ↔ r < s
  | [], r, s => Iff.rfl
  | a :: x, r, s => by
    rw [List.cons_append, List.cons_append, List.cons_lt_cons_iff, row_same x r s]
    constructor
    · rintro (h | ⟨_, h⟩)
      · exact absurd h (Nat.lt_irrefl a)
      · exact h
    · exact fun h => .inr ⟨rfl, h⟩
theorem lab_row : ∀ (x y r s : List Nat), x ≠ y → (lab x ++ r < lab y ++ s ↔ x < y)
  | [], [], r, s, h => absurd rfl h
  | [], b :: y, r, s, _ => by
    simp only [lab, List.map_nil, List.nil_append, List.map_cons, List.cons_append, List.cons_lt_cons_iff]
    exact ⟨fun _ => List.nil_lt_cons _ _, fun _ => .inl (Nat.succ_pos _)⟩
  | a :: x, [], r, s, _ => by
    simp only [lab, List.map_nil, List.nil_append, List.map_cons, List.cons_append, List.cons_lt_cons_iff]
    constructor
    · rintro (h | ⟨h, _⟩)
      · exact absurd h (Nat.not_lt_zero _)
      · exact absurd h (by omega)
    · intro h
      exact absurd h (List.not_lt_nil _)
  | a :: x, b :: y, r, s, h => by
    have e1 : lab (a :: x) ++ r = (a + 1) :: (lab x ++ r) := by simp [lab]
    have e2 : lab (b :: y) ++ s = (b + 1) :: (lab y ++ s) := by simp [lab]
    rw [e1, e2, List.cons_lt_cons_iff, List.cons_lt_cons_iff]
    by_cases e : a = b
    · subst e
      have ih := lab_row x y r s (fun z => h (by rw [z]))
      rw [ih]
      simp
    · constructor
      · rintro (z | ⟨z, _⟩)
        · exact .inl (by omega)
        · exact absurd (show a = b by omega) e
      · rintro (z | ⟨z, _⟩)
        · exact .inl (by omega)
        · exact absurd z e
/-! ### the order, place by place -/
theorem toksL_cons_lt (c c' : Nat) (p p' : Pt) (b b' : Pl) : toksL ((c, p) :: b) < toksL ((c', p') :: b') ↔ if p = p' then (if c = c' then toksL b < toksL b' else c < c') else lt p p' := by
  rw [toksL_cons, toksL_cons, List.cons_lt_cons_iff]
  have e0 : (1 < 1 ∨ 1 = 1 ∧ toks p ++ c :: toksL b < toks p' ++ c' :: toksL b') ↔ toks p ++ c :: toksL b < toks p' ++ c' :: toksL b' := ⟨fun h => h.elim (fun z => absurd z (Nat.lt_irrefl 1)) (·.2), fun h => .inr ⟨rfl, h⟩⟩
  rw [e0]
  by_cases h : p = p'
  · subst h
    rw [if_pos rfl, row_same, List.cons_lt_cons_iff]
    by_cases hc : c = c'
    · subst hc
      rw [if_pos rfl]
      exact ⟨fun z => z.elim (fun y => absurd y (Nat.lt_irrefl c)) (·.2), fun z => .inr ⟨rfl, z⟩⟩
    · rw [if_neg hc]
      exact ⟨fun z => z.elim id fun y => absurd y.1 hc, .inl⟩
  · rw [if_neg h]
    exact toks_row h _ _
theorem lt_box (w w' : Bool) (d d' : List Nat) (b b' : Pl) : lt (.box w d b) (.box w' d' b') ↔
    if szL b = szL b' then (if w = w' then (if d = d' then toksL b < toksL b' else d < d') else (w = false ∧ w' = true)) else szL b < szL b' := by
  unfold lt
  rw [toks_box, toks_box, List.cons_lt_cons_iff, List.cons_lt_cons_iff]
  by_cases hs : szL b = szL b'
  · rw [if_pos hs, hs]
    by_cases hw : w = w'
    · subst hw
      rw [if_pos rfl]
      by_cases hd : d = d'
      · subst hd
        rw [if_pos rfl, row_same]
        exact ⟨fun z => z.elim (fun y => absurd y (Nat.lt_irrefl _)) fun y => y.2.elim (fun x => absurd x (Nat.lt_irrefl _)) (·.2), fun z => .inr ⟨rfl, .inr ⟨rfl, z⟩⟩⟩
      · rw [if_neg hd, lab_row _ _ _ _ hd]
        exact ⟨fun z => z.elim (fun y => absurd y (Nat.lt_irrefl _)) fun y => y.2.elim (fun x => absurd x (Nat.lt_irrefl _)) (·.2), fun z => .inr ⟨rfl, .inr ⟨rfl, z⟩⟩⟩
    · rw [if_neg hw]
      cases w <;> cases w' <;> simp_all
  · rw [if_neg hs]
    constructor
    · rintro (z | ⟨z, _⟩)
      · omega
      · exact absurd (by omega) hs
    · intro z
      exact .inl (by omega)
end G6

set_option autoImplicit false
/-! Raising gots, canonical plans. -/
namespace G6
/-! ### raising -/
mutual
def rzP (c : Nat) : Pt → Pt
  | .name x => .name x
  | .got d => if c ≤ d then .got (d + 1) else .got d
  | .box w e b => .box w e (rzL (if w = true then c + 1 else c) b)
def rzL (c : Nat) : List (Nat × Pt) → List (Nat × Pt)
  | [] => []
  | (n, p) :: r => (n, rzP c p) :: rzL c r
end
theorem rzL_map (c : Nat) : ∀ b : Pl, rzL c b = b.map fun q => (q.1, rzP c q.2)
  | [] => by rw [rzL, List.map_nil]
  | (n, p) :: r => by rw [rzL, List.map_cons, rzL_map c r]
theorem rzP_name (c : Nat) (x : List Nat) : rzP c (.name x) = .name x := by rw [rzP]
theorem rzP_got (c d : Nat) : rzP c (.got d) = if c ≤ d then .got (d + 1) else .got d := by rw [rzP]
theorem rzP_box (c : Nat) (w : Bool) (e : List Nat) (b : Pl) : rzP c (.box w e b) = .box w e (rzL (if w = true then c + 1 else c) b) := by rw [rzP]
theorem rzL_nil (c : Nat) : rzL c [] = [] := by rw [rzL]
theorem rzL_cons (c n : Nat) (p : Pt) (r : Pl) : rzL c ((n, p) :: r) = (n, rzP c p) :: rzL c r := by rw [rzL]
theorem rzL_append (c : Nat) (a b : Pl) : rzL c (a ++ b) = rzL c a ++ rzL c b := by rw [rzL_map, rzL_map, rzL_map, List.map_append]
theorem rzL_length (c : Nat) (b : Pl) : (rzL c b).length = b.length := by rw [rzL_map, List.length_map]
theorem rzL_get (c : Nat) (b : Pl) (i : Nat) : (rzL c b)[i]? = b[i]?.map fun q => (q.1, rzP c q.2) := by rw [rzL_map, List.getElem?_map]
theorem rzL_erase (c : Nat) (b : Pl) (i : Nat) : (rzL c b).eraseIdx i = rzL c (b.eraseIdx i) := by
  rw [List.eraseIdx_eq_take_drop_succ, List.eraseIdx_eq_take_drop_succ, rzL_append, rzL_map, rzL_map c (b.take i), rzL_map c (b.drop (i + 1)), List.map_take, List.map_drop]
theorem szL_of_eq {f : Pt → Pt} : ∀ (b : Pl), (∀ q ∈ b, sz (f q.2) = sz q.2) → szL (b.map fun q => (q.1, f q.2)) = szL b
  | [], _ => rfl
  | (n, p) :: r, h => by
    have e : sz (f p) = sz p := h (n, p) (List.mem_cons_self ..)
    rw [List.map_cons, szL_cons, szL_cons, szL_of_eq r fun q hq => h q (List.mem_cons_of_mem _ hq), e]
theorem sz_rz : ∀ (p : Pt) (c : Nat), sz (rzP c p) = sz p := by
  refine Pt.ind (fun x c => by rw [rzP_name]) (fun d c => ?_) (fun w e b ih c => ?_)
  · rw [rzP_got]
    split <;> simp only [sz]
  · rw [rzP_box, sz_box, sz_box, rzL_map, szL_of_eq b fun q hq => ih q hq _]
theorem szL_rz (b : Pl) (c : Nat) : szL (rzL c b) = szL b := by
  rw [rzL_map]
  exact szL_of_eq b fun q _ => sz_rz q.2 c
theorem map_congr {f g : Pt → Pt} {b : Pl} (h : ∀ q ∈ b, f q.2 = g q.2) : (b.map fun q => (q.1, f q.2)) = b.map fun q => (q.1, g q.2) :=
  List.map_congr_left fun q hq => by rw [h q hq]
/-- two raises, the inner one lower -/
theorem rz_comm : ∀ (p : Pt) (c e : Nat), e ≤ c → rzP (c + 1) (rzP e p) = rzP e (rzP c p) := by
  refine Pt.ind (fun x c e _ => by simp only [rzP_name]) (fun d c e h => ?_) (fun w a b ih c e h => ?_)
  · rw [rzP_got, rzP_got]
    by_cases h1 : e ≤ d
    · by_cases h2 : c ≤ d
      · rw [if_pos h1, if_pos h2, rzP_got, rzP_got, if_pos (by omega), if_pos (by omega)]
      · rw [if_pos h1, if_neg h2, rzP_got, rzP_got, if_neg (by omega), if_pos h1]
    · rw [if_neg h1, if_neg (show ¬ c ≤ d by omega), rzP_got, rzP_got, if_neg (by omega), if_neg h1]
  · rw [rzP_box, rzP_box, rzP_box, rzP_box]
    cases w
    · simp only [Bool.false_eq_true, if_false]
      rw [rzL_map, rzL_map, rzL_map, rzL_map, List.map_map, List.map_map]
      exact congrArg (Pt.box false a) (List.map_congr_left fun q hq => congrArg (Prod.mk q.1) (ih q hq c e h))
    · simp only [if_true]
      rw [rzL_map, rzL_map, rzL_map, rzL_map, List.map_map, List.map_map]
      exact congrArg (Pt.box true a) (List.map_congr_left fun q hq => congrArg (Prod.mk q.1) (ih q hq (c + 1) (e + 1) (by omega)))
theorem rzL_comm (b : Pl) (c e : Nat) (h : e ≤ c) : rzL (c + 1) (rzL e b) = rzL e (rzL c b) := by
  rw [rzL_map, rzL_map, rzL_map, rzL_map, List.map_map, List.map_map]
  exact List.map_congr_left fun q _ => congrArg (Prod.mk q.1) (rz_comm q.2 c e h)
theorem map_inj_of {f : Pt → Pt} : ∀ (b b' : Pl), (∀ q ∈ b, ∀ t, f q.2 = f t → q.2 = t) → (b.map fun q => (q.1, f q.2)) = (b'.map fun q => (q.1, f q.2)) → b = b'
  | [], [], _, _ => rfl
  | [], _ :: _, _, h => by simp at h
  | _ :: _, [], _, h => by simp at h
  | (n, p) :: r, (m, q) :: r', hi, h => by
    simp only [List.map_cons, List.cons.injEq, Prod.mk.injEq] at h
    obtain ⟨⟨h1, h2⟩, h3⟩ := h
    rw [h1, show p = q from hi (n, p) (List.mem_cons_self ..) q h2, map_inj_of r r' (fun q hq => hi q (List.mem_cons_of_mem _ hq)) h3]
theorem rz_inj : ∀ (p : Pt) (c : Nat) (q : Pt), rzP c p = rzP c q → p = q := by
  refine Pt.ind (fun x c q h => ?_) (fun d c q h => ?_) (fun w a b ih c q h => ?_)
  · cases q with
    | name y => rw [rzP_name, rzP_name] at h; exact h
    | got e => rw [rzP_name, rzP_got] at h; split at h <;> cases h
    | box w e b => rw [rzP_name, rzP_box] at h; cases h
  · cases q with
    | name y => rw [rzP_name, rzP_got] at h; split at h <;> cases h
    | got e =>
      rw [rzP_got, rzP_got] at h
      split at h <;> split at h <;> simp only [Pt.got.injEq] at h <;> first | (exact congrArg Pt.got (by omega)) | omega
    | box w e b => rw [rzP_got, rzP_box] at h; split at h <;> cases h
  · cases q with
    | name y => rw [rzP_name, rzP_box] at h; cases h
    | got e =>
      rw [rzP_got c e, rzP_box] at h
      by_cases z : c ≤ e
      · rw [if_pos z] at h; cases h
      · rw [if_neg z] at h; cases h
    | box w' e b' =>
      rw [rzP_box, rzP_box] at h
      simp only [Pt.box.injEq] at h
      obtain ⟨h1, h2, h3⟩ := h
      subst h1 h2
      rw [rzL_map, rzL_map] at h3
      rw [map_inj_of b b' (fun q hq t e => ih q hq _ t e) h3]
theorem rzL_inj {b b' : Pl} {c : Nat} (h : rzL c b = rzL c b') : b = b' := by
  rw [rzL_map, rzL_map] at h
  exact map_inj_of b b' (fun q _ t e => rz_inj q.2 c t e) h
theorem rzL_row_of {c : Nat} : ∀ (b b' : Pl), (∀ q ∈ b, ∀ t, lt (rzP c q.2) (rzP c t) ↔ lt q.2 t) → (toksL (rzL c b) < toksL (rzL c b') ↔ toksL b < toksL b')
  | [], [], _ => by rw [rzL_nil]
  | [], (n, p) :: r, _ => by
    rw [rzL_nil, rzL_cons, toksL_nil, toksL_cons, toksL_cons, List.cons_lt_cons_iff, List.cons_lt_cons_iff]
    exact ⟨fun _ => .inl (by omega), fun _ => .inl (by omega)⟩
  | (n, p) :: r, [], _ => by
    rw [rzL_nil, rzL_cons, toksL_nil, toksL_cons, toksL_cons, List.cons_lt_cons_iff, List.cons_lt_cons_iff]
    exact ⟨fun z => z.elim (fun y => by omega) fun y => by omega, fun z => z.elim (fun y => by omega) fun y => by omega⟩
  | (n, p) :: r, (m, q) :: r', h => by
    rw [rzL_cons, rzL_cons, toksL_cons_lt, toksL_cons_lt]
    by_cases e : p = q
    · subst e
      rw [if_pos rfl, if_pos rfl, rzL_row_of r r' fun q hq => h q (List.mem_cons_of_mem _ hq)]
    · rw [if_neg e, if_neg fun z => e (rz_inj p c q z)]
      exact h (n, p) (List.mem_cons_self ..) q
/-- the order is kept by a raise -/
theorem rz_lt : ∀ (p : Pt) (c : Nat) (q : Pt), lt (rzP c p) (rzP c q) ↔ lt p q := by
  refine Pt.ind (fun x c q => ?_) (fun d c q => ?_) (fun w a b ih c q => ?_)
  · cases q with
    | name y => rw [rzP_name, rzP_name]
    | got e =>
      rw [rzP_name, rzP_got]
      unfold lt
      split <;> simp [toks_name, toks_got, List.cons_lt_cons_iff]
    | box w e b =>
      rw [rzP_name, rzP_box]
      unfold lt
      rw [toks_name, toks_box, toks_box, szL_rz, List.cons_lt_cons_iff, List.cons_lt_cons_iff, List.cons_lt_cons_iff, List.cons_lt_cons_iff]
      cases w <;> simp
  · cases q with
    | name y =>
      rw [rzP_name, rzP_got]
      unfold lt
      split <;> simp [toks_name, toks_got, List.cons_lt_cons_iff]
    | got e =>
      rw [rzP_got, rzP_got]
      unfold lt
      split <;> split <;> simp [toks_got, List.cons_lt_cons_iff] <;> omega
    | box w e b =>
      rw [rzP_got c d, rzP_box]
      unfold lt
      by_cases z : c ≤ d
      · rw [if_pos z, toks_got, toks_got, toks_box, toks_box, szL_rz]
        cases w <;> simp [List.cons_lt_cons_iff]
      · rw [if_neg z, toks_got, toks_box, toks_box, szL_rz]
        cases w <;> simp [List.cons_lt_cons_iff]
  · cases q with
    | name y =>
      rw [rzP_name, rzP_box]
      unfold lt
      rw [toks_name, toks_box, toks_box, szL_rz, List.cons_lt_cons_iff, List.cons_lt_cons_iff, List.cons_lt_cons_iff, List.cons_lt_cons_iff]
      cases w <;> simp
    | got e =>
      rw [rzP_got c e, rzP_box]
      unfold lt
      by_cases z : c ≤ e
      · rw [if_pos z, toks_got, toks_got, toks_box, toks_box, szL_rz]
        cases w <;> simp [List.cons_lt_cons_iff]
      · rw [if_neg z, toks_got, toks_box, toks_box, szL_rz]
        cases w <;> simp [List.cons_lt_cons_iff]
    | box w' e b' =>
      rw [rzP_box, rzP_box, lt_box, lt_box, szL_rz, szL_rz]
      by_cases h1 : szL b = szL b'
      · rw [if_pos h1, if_pos h1]
        by_cases h2 : w = w'
        · subst h2
          rw [if_pos rfl, if_pos rfl]
          by_cases h3 : a = e
          · rw [if_pos h3, if_pos h3]
            exact rzL_row_of b b' fun q hq t => ih q hq _ t
          · rw [if_neg h3, if_neg h3]
        · rw [if_neg h2, if_neg h2]
      · rw [if_neg h1, if_neg h1]
/-! ### how often a part stands in a row of items; rows in order -/
def mu (t : Pt) : Pl → Nat
  | [] => 0
  | (c, p) :: r => (if p = t then c else 0) + mu t r
theorem mu_append (t : Pt) : ∀ a b : Pl, mu t (a ++ b) = mu t a + mu t b
  | [], b => by rw [List.nil_append]; exact (Nat.zero_add _).symm
  | (c, p) :: r, b => by
    show (if p = t then c else 0) + mu t (r ++ b) = (if p = t then c else 0) + mu t r + mu t b
    rw [mu_append t r b, Nat.add_assoc]
theorem mu_cons (t : Pt) (c : Nat) (p : Pt) (r : Pl) : mu t ((c, p) :: r) = (if p = t then c else 0) + mu t r := rfl
theorem mu_perm {t : Pt} {a b : Pl} (h : a.Perm b) : mu t a = mu t b := by
  induction h with
  | nil => rfl
  | cons x _ ih => obtain ⟨c, p⟩ := x; rw [mu_cons, mu_cons, ih]
  | swap x y l => obtain ⟨c, p⟩ := x; obtain ⟨d, q⟩ := y; rw [mu_cons, mu_cons, mu_cons, mu_cons]; omega
  | trans _ _ h1 h2 => exact h1.trans h2
theorem mu_zero {t : Pt} : ∀ {b : Pl}, (∀ q ∈ b, q.2 ≠ t) → mu t b = 0
  | [], _ => rfl
  | (c, p) :: r, h => by rw [mu_cons, if_neg (h (c, p) (List.mem_cons_self ..)), mu_zero fun q hq => h q (List.mem_cons_of_mem _ hq)]
/-- each count is from 1 on -/
def Pos (b : Pl) : Prop := ∀ q ∈ b, 1 ≤ q.1
/-- ascending by parts -/
def Asc (b : Pl) : Prop := b.Pairwise fun x y => lt x.2 y.2
theorem mu_mem {b : Pl} (hp : Pos b) {t : Pt} (h : mu t b ≠ 0) : ∃ c, (c, t) ∈ b := by
  induction b with
  | nil => exact absurd rfl h
  | cons q r ih =>
    obtain ⟨c, p⟩ := q
    by_cases e : p = t
    · subst e
      exact ⟨c, List.mem_cons_self ..⟩
    · rw [mu_cons, if_neg e, Nat.zero_add] at h
      obtain ⟨d, hd⟩ := ih (fun q hq => hp q (List.mem_cons_of_mem _ hq)) h
      exact ⟨d, List.mem_cons_of_mem _ hd⟩
theorem asc_mu {b : Pl} (h : Asc b) {c : Nat} {t : Pt} (hm : (c, t) ∈ b) : mu t b = c := by
  induction b with
  | nil => cases hm
  | cons q r ih =>
    obtain ⟨d, p⟩ := q
    obtain ⟨h1, h2⟩ := List.pairwise_cons.mp h
    rcases List.mem_cons.mp hm with e | e
    · cases e
      rw [mu_cons, if_pos rfl, mu_zero (b := r) fun q hq z => (by have y := h1 q hq; rw [z] at y; exact lt_irrefl _ y), Nat.add_zero]
    · rw [mu_cons, if_neg (fun z => lt_irrefl p (by have := h1 _ e; rw [← z] at this; exact this)), Nat.zero_add]
      exact ih h2 e
/-- a row in order is told by how often each part stands in it -/
theorem canon : ∀ (a b : Pl), Asc a → Asc b → Pos a → Pos b → (∀ t, mu t a = mu t b) → a = b
  | [], [], _, _, _, _, _ => rfl
  | [], (c, p) :: r, _, hb, _, pb, h => by
    have h1 := h p
    rw [asc_mu hb (List.mem_cons_self ..)] at h1
    have h2 : (1 : Nat) ≤ c := pb (c, p) (List.mem_cons_self ..)
    have h3 : (0 : Nat) = c := h1
    omega
  | (c, p) :: r, [], ha, _, pa, _, h => by
    have h1 := h p
    rw [asc_mu ha (List.mem_cons_self ..)] at h1
    have h2 : (1 : Nat) ≤ c := pa (c, p) (List.mem_cons_self ..)
    have h3 : c = 0 := h1
    omega
  | (c, p) :: r, (d, q) :: s, ha, hb, pa, pb, h => by
    obtain ⟨a1, a2⟩ := List.pairwise_cons.mp ha
    obtain ⟨b1, b2⟩ := List.pairwise_cons.mp hb
    have hc : 1 ≤ c := pa (c, p) (List.mem_cons_self ..)
    have hd : 1 ≤ d := pb (d, q) (List.mem_cons_self ..)
    have e : p = q := by
      refine lt_total (fun z => ?_) fun z => ?_
      · have h1 := h p
        have h2 : mu p ((d, q) :: s) = 0 := mu_zero fun x hx e => by
          rcases List.mem_cons.mp hx with y | y
          · rw [y] at e
            exact lt_ne z e.symm
          · exact lt_ne (lt_trans z (b1 x y)) e.symm
        rw [asc_mu ha (List.mem_cons_self ..), h2] at h1
        omega
      · have h1 := h q
        have h2 : mu q ((c, p) :: r) = 0 := mu_zero fun x hx e => by
          rcases List.mem_cons.mp hx with y | y
          · rw [y] at e
            exact lt_ne z e.symm
          · exact lt_ne (lt_trans z (a1 x y)) e.symm
        rw [asc_mu hb (List.mem_cons_self ..), h2] at h1
        omega
    subst e
    have hr0 : mu p r = 0 := mu_zero fun x hx e => lt_ne (a1 x hx) e.symm
    have hs0 : mu p s = 0 := mu_zero fun x hx e => lt_ne (b1 x hx) e.symm
    have ec : c = d := by
      have h1 := h p
      rw [mu_cons, mu_cons, if_pos rfl, if_pos rfl, hr0, hs0] at h1
      omega
    subst ec
    rw [canon r s a2 b2 (fun x hx => pa x (List.mem_cons_of_mem _ hx)) (fun x hx => pb x (List.mem_cons_of_mem _ hx)) fun t => by
      have h1 := h t
      rw [mu_cons, mu_cons] at h1
      omega]
theorem asc_rz {b : Pl} (c : Nat) (h : Asc b) : Asc (rzL c b) := by
  rw [rzL_map]
  exact List.pairwise_map.mpr (h.imp fun {x y} z => (rz_lt x.2 c y.2).mpr z)
theorem pos_rz {b : Pl} (c : Nat) (h : Pos b) : Pos (rzL c b) := by
  rw [rzL_map]
  intro q hq
  obtain ⟨x, hx, rfl⟩ := List.mem_map.mp hq
  exact h x hx
theorem mu_rz (c : Nat) (t : Pt) : ∀ b : Pl, mu (rzP c t) (rzL c b) = mu t b
  | [] => by rw [rzL_nil]; rfl
  | (n, p) :: r => by
    rw [rzL_cons, mu_cons, mu_cons, mu_rz c t r]
    by_cases e : p = t
    · rw [if_pos e, if_pos (by rw [e])]
    · rw [if_neg e, if_neg fun z => e (rz_inj p c t z)]
end G6

set_option autoImplicit false
/-! Plain plans. -/
namespace G6
/-! ### sorting items, those with one part joined -/
def leP (a b : Nat × Pt) : Bool := !decide (lt b.2 a.2)
def joinStep (acc : Pl) (q : Nat × Pt) : Pl := match acc.getLast? with
  | some (c, p) => if p = q.2 then acc.dropLast ++ [(c + q.1, q.2)] else acc ++ [q]
  | none => [q]
def joinL (l : Pl) : Pl := l.foldl joinStep []
def sortItems (l : Pl) : Pl := joinL (l.mergeSort leP)
theorem leP_iff {a b : Nat × Pt} : leP a b = true ↔ ¬ lt b.2 a.2 := by
  unfold leP
  rw [Bool.not_eq_true', decide_eq_false_iff_not]
theorem leP_trans (a b c : Nat × Pt) (h1 : leP a b = true) (h2 : leP b c = true) : leP a c = true :=
  leP_iff.mpr (not_lt_trans (leP_iff.mp h1) (leP_iff.mp h2))
theorem leP_total (a b : Nat × Pt) : (leP a b || leP b a) = true := by
  rw [Bool.or_eq_true, leP_iff, leP_iff]
  by_cases h : lt b.2 a.2
  · exact .inr (lt_asymm h)
  · exact .inl h
theorem joinStep_nil (q : Nat × Pt) : joinStep [] q = [q] := rfl
theorem joinStep_same (a : Pl) (c : Nat) (q : Nat × Pt) : joinStep (a ++ [(c, q.2)]) q = a ++ [(c + q.1, q.2)] := by
  unfold joinStep
  rw [List.getLast?_concat, List.dropLast_concat]
  simp
theorem joinStep_other (a : Pl) (c : Nat) (p : Pt) (q : Nat × Pt) (h : p ≠ q.2) : joinStep (a ++ [(c, p)]) q = a ++ [(c, p)] ++ [q] := by
  unfold joinStep
  rw [List.getLast?_concat]
  simp [h]
theorem list_end {α : Type} (l : List α) : l = [] ∨ ∃ a x, l = a ++ [x] := by
  cases l with
  | nil => exact .inl rfl
  | cons y r => exact .inr ⟨(y :: r).dropLast, (y :: r).getLast (List.cons_ne_nil _ _), (List.dropLast_concat_getLast _).symm⟩
theorem asc_append {a b : Pl} : Asc (a ++ b) ↔ Asc a ∧ Asc b ∧ ∀ x ∈ a, ∀ y ∈ b, lt x.2 y.2 := List.pairwise_append
theorem joinStep_spec {acc : Pl} {q : Nat × Pt} (ha : Asc acc) (pa : Pos acc) (hq : 1 ≤ q.1) (hl : ∀ x ∈ acc, ¬ lt q.2 x.2) :
    Asc (joinStep acc q) ∧ Pos (joinStep acc q) ∧ (∀ t, mu t (joinStep acc q) = mu t acc + mu t [q]) ∧ (∀ x ∈ joinStep acc q, x.2 = q.2 ∨ x ∈ acc) := by
  rcases list_end acc with rfl | ⟨a, ⟨c, p⟩, rfl⟩
  · rw [joinStep_nil]
    refine ⟨List.pairwise_singleton _ _, fun x hx => by rw [List.mem_singleton.mp hx]; exact hq, fun t => (Nat.zero_add _).symm, fun x hx => .inl (by rw [List.mem_singleton.mp hx])⟩
  · obtain ⟨a1, _, a3⟩ := asc_append.mp ha
    by_cases e : p = q.2
    · subst e
      rw [joinStep_same]
      refine ⟨asc_append.mpr ⟨a1, List.pairwise_singleton _ _, fun x hx y hy => ?_⟩, fun x hx => ?_, fun t => ?_, fun x hx => ?_⟩
      · rw [List.mem_singleton.mp hy]
        exact a3 x hx (c, q.2) (List.mem_singleton.mpr rfl)
      · rcases List.mem_append.mp hx with hx | hx
        · exact pa x (List.mem_append_left _ hx)
        · rw [List.mem_singleton.mp hx]
          exact Nat.le_trans hq (Nat.le_add_left _ _)
      · obtain ⟨d, p⟩ := q
        rw [mu_append, mu_append, mu_cons, mu_cons, mu_cons]
        show mu t a + ((if p = t then c + d else 0) + 0) = mu t a + ((if p = t then c else 0) + 0) + ((if p = t then d else 0) + 0)
        split <;> omega
      · rcases List.mem_append.mp hx with hx | hx
        · exact .inr (List.mem_append_left _ hx)
        · rw [List.mem_singleton.mp hx]
          exact .inl rfl
    · rw [joinStep_other a c p q e]
      refine ⟨asc_append.mpr ⟨ha, List.pairwise_singleton _ _, fun x hx y hy => ?_⟩, fun x hx => ?_, fun t => mu_append t _ _, fun x hx => ?_⟩
      · rw [List.mem_singleton.mp hy]
        have hp : lt p q.2 := by
          by_cases z : lt p q.2
          · exact z
          · exact absurd (lt_total z (hl (c, p) (List.mem_append_right _ (List.mem_singleton.mpr rfl)))) e
        rcases List.mem_append.mp hx with hx | hx
        · exact lt_trans (a3 x hx (c, p) (List.mem_singleton.mpr rfl)) hp
        · rw [List.mem_singleton.mp hx]
          exact hp
      · rcases List.mem_append.mp hx with hx | hx
        · exact pa x hx
        · rw [List.mem_singleton.mp hx]
          exact hq
      · rcases List.mem_append.mp hx with hx | hx
        · exact .inr hx
        · rw [List.mem_singleton.mp hx]
          exact .inl rfl
theorem join_go : ∀ (l acc : Pl), Asc acc → Pos acc → Pos l → l.Pairwise (fun x y => ¬ lt y.2 x.2) → (∀ x ∈ acc, ∀ y ∈ l, ¬ lt y.2 x.2) →
    Asc (l.foldl joinStep acc) ∧ Pos (l.foldl joinStep acc) ∧ ∀ t, mu t (l.foldl joinStep acc) = mu t acc + mu t l
  | [], acc, ha, pa, _, _, _ => ⟨ha, pa, fun _ => rfl⟩
  | q :: r, acc, ha, pa, pl, hp, hl => by
    obtain ⟨p1, p2⟩ := List.pairwise_cons.mp hp
    obtain ⟨s1, s2, s3, s4⟩ := joinStep_spec ha pa (pl q (List.mem_cons_self ..)) fun x hx => hl x hx q (List.mem_cons_self ..)
    obtain ⟨t1, t2, t3⟩ := join_go r (joinStep acc q) s1 s2 (fun x hx => pl x (List.mem_cons_of_mem _ hx)) p2 fun x hx y hy => by
      rcases s4 x hx with e | e
      · rw [e]
        exact p1 y hy
      · exact hl x e y (List.mem_cons_of_mem _ hy)
    refine ⟨t1, t2, fun t => ?_⟩
    rw [List.foldl_cons, t3, s3]
    obtain ⟨c, p⟩ := q
    rw [mu_cons, mu_cons]
    show mu t acc + ((if p = t then c else 0) + 0) + mu t r = mu t acc + ((if p = t then c else 0) + mu t r)
    omega
theorem join_spec {l : Pl} (pl : Pos l) (hp : l.Pairwise fun x y => ¬ lt y.2 x.2) : Asc (joinL l) ∧ Pos (joinL l) ∧ ∀ t, mu t (joinL l) = mu t l := by
  obtain ⟨h1, h2, h3⟩ := join_go l [] List.Pairwise.nil (fun _ h => absurd h List.not_mem_nil) pl hp (fun _ h => absurd h List.not_mem_nil)
  exact ⟨h1, h2, fun t => (h3 t).trans (Nat.zero_add _)⟩
theorem sort_pair (l : Pl) : (l.mergeSort leP).Pairwise fun x y => ¬ lt y.2 x.2 :=
  (List.pairwise_mergeSort leP_trans leP_total l).imp fun h => leP_iff.mp h
theorem pos_perm {a b : Pl} (h : a.Perm b) (p : Pos b) : Pos a := fun q hq => p q (h.mem_iff.mp hq)
theorem sort_spec {l : Pl} (pl : Pos l) : Asc (sortItems l) ∧ Pos (sortItems l) ∧ ∀ t, mu t (sortItems l) = mu t l := by
  obtain ⟨h1, h2, h3⟩ := join_spec (pos_perm (List.mergeSort_perm l leP) pl) (sort_pair l)
  exact ⟨h1, h2, fun t => (h3 t).trans (mu_perm (List.mergeSort_perm l leP))⟩
/-- whatever way a row was brought into order -/
theorem join_any {l out : Pl} (pl : Pos l) (h : out.Perm l) (hp : out.Pairwise fun x y => ¬ lt y.2 x.2) : joinL out = sortItems l := by
  obtain ⟨h1, h2, h3⟩ := join_spec (pos_perm h pl) hp
  obtain ⟨k1, k2, k3⟩ := sort_spec pl
  exact canon _ _ h1 k1 h2 k2 fun t => by rw [h3, k3, mu_perm h]
theorem sort_eq {l l' : Pl} (pl : Pos l) (pl' : Pos l') (h : ∀ t, mu t l = mu t l') : sortItems l = sortItems l' := by
  obtain ⟨h1, h2, h3⟩ := sort_spec pl
  obtain ⟨k1, k2, k3⟩ := sort_spec pl'
  exact canon _ _ h1 k1 h2 k2 fun t => by rw [h3, k3, h]
theorem sort_id {l : Pl} (pl : Pos l) (ha : Asc l) : sortItems l = l := by
  obtain ⟨h1, h2, h3⟩ := sort_spec pl
  exact canon _ _ h1 ha h2 pl h3
theorem sort_parts {l : Pl} (pl : Pos l) {q : Nat × Pt} (hq : q ∈ sortItems l) : ∃ c, (c, q.2) ∈ l := by
  obtain ⟨h1, h2, h3⟩ := sort_spec pl
  obtain ⟨c, p⟩ := q
  have e : mu p (sortItems l) = c := asc_mu h1 hq
  have p1 : 1 ≤ c := h2 (c, p) hq
  rw [h3] at e
  have ne : mu p l ≠ 0 := by omega
  exact mu_mem pl ne
theorem sort_rz {l : Pl} (pl : Pos l) (c : Nat) : sortItems (rzL c l) = rzL c (sortItems l) := by
  obtain ⟨h1, h2, h3⟩ := sort_spec (pos_rz c pl)
  obtain ⟨k1, k2, k3⟩ := sort_spec pl
  refine canon _ _ h1 (asc_rz c k1) h2 (pos_rz c k2) fun t => ?_
  rw [h3]
  by_cases z : ∃ u, rzP c u = t
  · obtain ⟨u, rfl⟩ := z
    rw [mu_rz, mu_rz, k3]
  · rw [mu_zero, mu_zero]
    · intro q hq e
      rw [rzL_map] at hq
      obtain ⟨x, _, rfl⟩ := List.mem_map.mp hq
      exact z ⟨_, e⟩
    · intro q hq e
      rw [rzL_map] at hq
      obtain ⟨x, _, rfl⟩ := List.mem_map.mp hq
      exact z ⟨_, e⟩
theorem szL_perm {a b : Pl} (h : a.Perm b) : szL a = szL b := by
  induction h with
  | nil => rfl
  | cons x _ ih => obtain ⟨c, p⟩ := x; rw [szL_cons, szL_cons, ih]
  | swap x y l => obtain ⟨c, p⟩ := x; obtain ⟨d, q⟩ := y; rw [szL_cons, szL_cons, szL_cons, szL_cons]; omega
  | trans _ _ h1 h2 => exact h1.trans h2
theorem szL_one (q : Nat × Pt) : szL [q] = q.1 * sz q.2 := by
  obtain ⟨c, p⟩ := q
  rw [szL_cons, szL_nil, Nat.add_zero]
theorem joinStep_sz (acc : Pl) (q : Nat × Pt) : szL (joinStep acc q) = szL acc + szL [q] := by
  rcases list_end acc with rfl | ⟨a, ⟨c, p⟩, rfl⟩
  · rw [joinStep_nil, szL_nil, Nat.zero_add]
  · by_cases e : p = q.2
    · subst e
      rw [joinStep_same, szL_append, szL_append, szL_one, szL_one, szL_one]
      show szL a + (c + q.1) * sz q.2 = szL a + c * sz q.2 + q.1 * sz q.2
      rw [Nat.add_mul]
      omega
    · rw [joinStep_other a c p q e, szL_append (a ++ [(c, p)]) [q]]
theorem join_sz : ∀ (l acc : Pl), szL (l.foldl joinStep acc) = szL acc + szL l
  | [], acc => by rw [List.foldl_nil, szL_nil, Nat.add_zero]
  | q :: r, acc => by
    rw [List.foldl_cons, join_sz r, joinStep_sz]
    obtain ⟨c, p⟩ := q
    rw [szL_one, szL_cons]
    show szL acc + c * sz p + szL r = szL acc + (c * sz p + szL r)
    omega
theorem sort_sz (l : Pl) : szL (sortItems l) = szL l := by
  show szL ((l.mergeSort leP).foldl joinStep []) = szL l
  rw [join_sz, szL_nil, Nat.zero_add, szL_perm (List.mergeSort_perm l leP)]
/-! ### the rule on waits -/
def hit (d : List Nat) (B : Pl) (i : Nat) : Bool := decide (B[i]?.map (·.2) = some (Pt.box true d (rzL 1 (B.eraseIdx i))))
def folded (d : List Nat) (B : Pl) : Nat × Pt := match (List.range B.length).find? (hit d B) with
  | some i => ((B[i]?.map (·.1)).getD 0 + 1, .box true d (B.eraseIdx i))
  | none => (1, .box true d B)
theorem hit_iff {d : List Nat} {B : Pl} {i : Nat} : hit d B i = true ↔ ∃ k, B[i]? = some (k, Pt.box true d (rzL 1 (B.eraseIdx i))) := by
  unfold hit
  rw [decide_eq_true_eq]
  cases h : B[i]? with
  | none => simp
  | some q =>
    obtain ⟨k, p⟩ := q
    simp
theorem sz_mem {b : Pl} (pb : Pos b) {q : Nat × Pt} (h : q ∈ b) : sz q.2 ≤ szL b := by
  induction b with
  | nil => cases h
  | cons x r ih =>
    obtain ⟨c, p⟩ := x
    rw [szL_cons]
    rcases List.mem_cons.mp h with e | e
    · rw [e]
      have := pb (c, p) (List.mem_cons_self ..)
      exact Nat.le_trans (Nat.le_mul_of_pos_left _ this) (Nat.le_add_right _ _)
    · exact Nat.le_trans (ih (fun q hq => pb q (List.mem_cons_of_mem _ hq)) e) (Nat.le_add_left _ _)
theorem pos_erase {b : Pl} (pb : Pos b) (i : Nat) : Pos (b.eraseIdx i) := fun q hq => pb q ((List.eraseIdx_sublist b i).subset hq)
theorem asc_erase {b : Pl} (hb : Asc b) (i : Nat) : Asc (b.eraseIdx i) := List.Pairwise.sublist (List.eraseIdx_sublist b i) hb
theorem hit_one {d : List Nat} {B : Pl} (pb : Pos B) {i j : Nat} (h1 : hit d B i = true) (h2 : hit d B j = true) : i = j := by
  obtain ⟨k, e1⟩ := hit_iff.mp h1
  obtain ⟨l, e2⟩ := hit_iff.mp h2
  refine Decidable.byContradiction fun ne => ?_
  have m1 := sz_mem (pos_erase pb i) (List.mem_eraseIdx_iff_getElem?.mpr ⟨j, fun z => ne z.symm, e2⟩)
  have m2 := sz_mem (pos_erase pb j) (List.mem_eraseIdx_iff_getElem?.mpr ⟨i, ne, e1⟩)
  have m1' : sz (Pt.box true d (rzL 1 (B.eraseIdx j))) ≤ szL (B.eraseIdx i) := m1
  have m2' : sz (Pt.box true d (rzL 1 (B.eraseIdx i))) ≤ szL (B.eraseIdx j) := m2
  rw [sz_box, szL_rz] at m1' m2'
  omega
theorem folded_hit {d : List Nat} {B : Pl} (pb : Pos B) {i k : Nat} {p : Pt} (h : hit d B i = true) (e : B[i]? = some (k, p)) : folded d B = (k + 1, .box true d (B.eraseIdx i)) := by
  unfold folded
  cases q : (List.range B.length).find? (hit d B) with
  | none =>
    have hi : i < B.length := (List.getElem?_eq_some_iff.mp e).1
    have z := List.find?_eq_none.mp q i (List.mem_range.mpr hi)
    exact absurd h z
  | some j =>
    have e2 := hit_one pb h (List.find?_some q)
    subst e2
    show ((B[i]?.map (·.1)).getD 0 + 1, Pt.box true d (B.eraseIdx i)) = _
    rw [e]
    rfl
theorem folded_miss {d : List Nat} {B : Pl} (h : ∀ i, i < B.length → hit d B i = false) : folded d B = (1, .box true d B) := by
  unfold folded
  rw [List.find?_eq_none.mpr fun i hi => by rw [h i (List.mem_range.mp hi)]; exact Bool.false_ne_true]
theorem mu_erase {B : Pl} {i k : Nat} {p : Pt} (e : B[i]? = some (k, p)) (t : Pt) : mu t B = mu t (B.eraseIdx i) + if p = t then k else 0 := by
  obtain ⟨hi, e2⟩ := List.getElem?_eq_some_iff.mp e
  have h : B = B.take i ++ (k, p) :: B.drop (i + 1) := by
    rw [← e2, ← List.drop_eq_getElem_cons hi, List.take_append_drop]
  rw [List.eraseIdx_eq_take_drop_succ, mu_append]
  have h2 : mu t B = mu t (B.take i ++ (k, p) :: B.drop (i + 1)) := congrArg (mu t) h
  rw [h2, mu_append, mu_cons]
  omega
/-- what folded gives: so many times, and what is left -/
theorem folded_form {d : List Nat} {B : Pl} (ha : Asc B) (pb : Pos B) : ∃ m R, 1 ≤ m ∧ folded d B = (m, .box true d R) ∧ Asc R ∧ Pos R ∧ (∀ q ∈ R, q ∈ B) ∧ R.length ≤ B.length ∧
    (∀ t, mu t B = mu t R + if Pt.box true d (rzL 1 R) = t then m - 1 else 0) ∧ ((m = 1 ∧ R = B ∧ ∀ i, hit d B i = false) ∨ ∃ i k, 1 ≤ k ∧ m = k + 1 ∧ R = B.eraseIdx i ∧ B[i]? = some (k, Pt.box true d (rzL 1 R))) := by
  by_cases h : ∃ i, hit d B i = true
  · obtain ⟨i, h⟩ := h
    obtain ⟨k, e⟩ := hit_iff.mp h
    have hk : 1 ≤ k := pb (k, _) (List.mem_of_getElem? e)
    refine ⟨k + 1, B.eraseIdx i, Nat.le_add_left _ _, folded_hit pb h e, asc_erase ha i, pos_erase pb i, fun q hq => (List.eraseIdx_sublist B i).subset hq, (List.eraseIdx_sublist B i).length_le, fun t => mu_erase e t, .inr ⟨i, k, hk, rfl, rfl, e⟩⟩
  · have hm : ∀ i, hit d B i = false := fun i => by
      cases q : hit d B i with
      | false => rfl
      | true => exact absurd ⟨i, q⟩ h
    exact ⟨1, B, Nat.le_refl _, folded_miss fun i _ => hm i, ha, pb, fun _ h => h, Nat.le_refl _, fun t => by split <;> rfl, .inl ⟨rfl, rfl, hm⟩⟩
/-- what is told by how often the parts stand in it folds as it must -/
theorem fold_canon {d : List Nat} {B R : Pl} {j : Nat} (ha : Asc B) (pb : Pos B) (ra : Asc R) (pr : Pos R) (hj : 1 ≤ j) (hm : ∀ t, mu t B = mu t R + if Pt.box true d (rzL 1 R) = t then j else 0) :
    folded d B = (j + 1, .box true d R) := by
  have hR : mu (Pt.box true d (rzL 1 R)) R = 0 := mu_zero fun q hq e => by
    have z := sz_mem pr hq
    rw [e, sz_box, szL_rz] at z
    omega
  have hB : mu (Pt.box true d (rzL 1 R)) B = j := by rw [hm, hR, if_pos rfl, Nat.zero_add]
  obtain ⟨c, hc⟩ := mu_mem pb (t := Pt.box true d (rzL 1 R)) (by omega)
  have ec : c = j := by rw [← hB, asc_mu ha hc]
  subst ec
  obtain ⟨i, hi⟩ := List.mem_iff_getElem?.mp hc
  have eE : B.eraseIdx i = R := canon _ _ (asc_erase ha i) ra (pos_erase pb i) pr fun t => by
    have h1 := mu_erase hi t
    have h2 := hm t
    omega
  have hh : hit d B i = true := hit_iff.mpr ⟨c, by rw [eE]; exact hi⟩
  rw [folded_hit pb hh hi, eE]
theorem hit_rz {d : List Nat} {B : Pl} {e i : Nat} (he : 1 ≤ e) : hit d (rzL e B) i = hit d B i := by
  unfold hit
  rw [rzL_get, rzL_erase, Option.map_map]
  have h1 : Pt.box true d (rzL 1 (rzL e (B.eraseIdx i))) = rzP e (Pt.box true d (rzL 1 (B.eraseIdx i))) := by
    rw [rzP_box, if_pos rfl, rzL_comm _ e 1 he]
  rw [h1]
  cases B[i]? with
  | none => simp
  | some q =>
    simp only [Option.map_some, Function.comp, Option.some.injEq]
    exact decide_eq_decide.mpr ⟨fun z => rz_inj _ _ _ z, fun z => by rw [z]⟩
theorem folded_rz {d : List Nat} {B R : Pl} {e m : Nat} (he : 1 ≤ e) (h : folded d B = (m, .box true d R)) : folded d (rzL e B) = (m, .box true d (rzL e R)) := by
  have hf : hit d (rzL e B) = hit d B := funext fun i => hit_rz he
  unfold folded at h ⊢
  rw [rzL_length, hf]
  cases q : (List.range B.length).find? (hit d B) with
  | none =>
    rw [q] at h
    have h' : (1, Pt.box true d B) = (m, Pt.box true d R) := h
    simp only [Prod.mk.injEq, Pt.box.injEq, true_and] at h'
    show (1, Pt.box true d (rzL e B)) = _
    rw [h'.1, h'.2]
  | some i =>
    rw [q] at h
    have h' : ((B[i]?.map (·.1)).getD 0 + 1, Pt.box true d (B.eraseIdx i)) = (m, Pt.box true d R) := h
    simp only [Prod.mk.injEq, Pt.box.injEq, true_and] at h'
    show (((rzL e B)[i]?.map (·.1)).getD 0 + 1, Pt.box true d ((rzL e B).eraseIdx i)) = _
    rw [rzL_get, rzL_erase, Option.map_map]
    have e3 : (Option.map ((fun x : Nat × Pt => x.1) ∘ fun q : Nat × Pt => (q.1, rzP e q.2)) B[i]?) = B[i]?.map (·.1) := by
      cases B[i]? <;> rfl
    rw [e3, h'.1, h'.2]
/-! ### the plain form -/
mutual
def mp : Pt → Nat × Pt
  | .name x => (1, .name x)
  | .got d => (1, .got d)
  | .box w d b => if w = true then folded d (sortItems (preL b)) else (1, .box false d (sortItems (preL b)))
def preL : List (Nat × Pt) → List (Nat × Pt)
  | [] => []
  | (c, p) :: r => (c * (mp p).1, (mp p).2) :: preL r
end
def plainOf (b : Pl) : Pl := sortItems (preL b)
theorem mp_name (x : List Nat) : mp (.name x) = (1, .name x) := by rw [mp]
theorem mp_got (d : Nat) : mp (.got d) = (1, .got d) := by rw [mp]
theorem mp_letter (d : List Nat) (b : Pl) : mp (.box false d b) = (1, .box false d (plainOf b)) := by
  rw [mp, if_neg Bool.false_ne_true]
  rfl
theorem mp_wait (d : List Nat) (b : Pl) : mp (.box true d b) = folded d (plainOf b) := by
  rw [mp, if_pos rfl]
  rfl
theorem preL_map : ∀ b : Pl, preL b = b.map fun q => (q.1 * (mp q.2).1, (mp q.2).2)
  | [] => by rw [preL, List.map_nil]
  | (c, p) :: r => by rw [preL, List.map_cons, preL_map r]
theorem preL_append (a b : Pl) : preL (a ++ b) = preL a ++ preL b := by rw [preL_map, preL_map, preL_map, List.map_append]
end G6

set_option autoImplicit false
/-! The plain form: it stays, it keeps sizes, and hidden plans have the same one. -/
namespace G6
def okLab (x : List Nat) : Prop := ∃ c, x = [c] ∧ 97 ≤ c ∧ c ≤ 122
mutual
/-- a part that stands in n waits, counts from 1 on, labels of one small letter -/
def Good : Nat → Pt → Prop
  | _, .name x => okLab x
  | n, .got d => d < n
  | n, .box w e b => okLab e ∧ GoodL (if w = true then n + 1 else n) b
def GoodL : Nat → List (Nat × Pt) → Prop
  | _, [] => True
  | n, (c, p) :: r => 1 ≤ c ∧ Good n p ∧ GoodL n r
end
theorem goodL_iff (n : Nat) : ∀ b : Pl, GoodL n b ↔ ∀ q ∈ b, 1 ≤ q.1 ∧ Good n q.2
  | [] => by rw [GoodL]; exact ⟨fun _ _ h => absurd h List.not_mem_nil, fun _ => trivial⟩
  | (c, p) :: r => by
    rw [GoodL, goodL_iff n r]
    constructor
    · rintro ⟨h1, h2, h3⟩ q hq
      rcases List.mem_cons.mp hq with e | e
      · rw [e]; exact ⟨h1, h2⟩
      · exact h3 q e
    · intro h
      exact ⟨(h (c, p) (List.mem_cons_self ..)).1, (h (c, p) (List.mem_cons_self ..)).2, fun q hq => h q (List.mem_cons_of_mem _ hq)⟩
theorem good_box (n : Nat) (w : Bool) (e : List Nat) (b : Pl) : Good n (.box w e b) ↔ okLab e ∧ GoodL (if w = true then n + 1 else n) b := by rw [Good]
theorem good_got (n d : Nat) : Good n (.got d) ↔ d < n := by rw [Good]
theorem good_name (n : Nat) (x : List Nat) : Good n (.name x) ↔ okLab x := by rw [Good]
theorem goodL_nil (n : Nat) : GoodL n [] := by rw [GoodL]; trivial
theorem goodL_append {n : Nat} {a b : Pl} : GoodL n (a ++ b) ↔ GoodL n a ∧ GoodL n b := by
  rw [goodL_iff, goodL_iff, goodL_iff]
  exact ⟨fun h => ⟨fun q hq => h q (List.mem_append_left _ hq), fun q hq => h q (List.mem_append_right _ hq)⟩, fun h q hq => (List.mem_append.mp hq).elim (h.1 q) (h.2 q)⟩
theorem goodL_one {n c : Nat} {p : Pt} : GoodL n [(c, p)] ↔ 1 ≤ c ∧ Good n p := by
  rw [goodL_iff]
  exact ⟨fun h => h (c, p) (List.mem_singleton.mpr rfl), fun h q hq => by rw [List.mem_singleton.mp hq]; exact h⟩
theorem goodL_perm {n : Nat} {a b : Pl} (h : a.Perm b) (g : GoodL n b) : GoodL n a := by
  rw [goodL_iff] at g ⊢
  exact fun q hq => g q (h.mem_iff.mp hq)
theorem GoodL.pos {n : Nat} {b : Pl} (h : GoodL n b) : Pos b := fun q hq => ((goodL_iff n b).mp h q hq).1
theorem good_rz : ∀ (p : Pt) (n c : Nat), Good n p → Good (n + 1) (rzP c p) := by
  refine Pt.ind (fun x n c h => ?_) (fun d n c h => ?_) (fun w a b ih n c h => ?_)
  · rw [rzP_name]; rw [good_name] at h ⊢; exact h
  · rw [rzP_got]
    rw [good_got] at h
    split <;> rw [good_got] <;> omega
  · rw [rzP_box, good_box]
    rw [good_box, goodL_iff] at h
    refine ⟨h.1, (goodL_iff _ _).mpr ?_⟩
    rw [rzL_map]
    intro q hq
    obtain ⟨x, hx, rfl⟩ := List.mem_map.mp hq
    obtain ⟨h1, h2⟩ := h.2 x hx
    refine ⟨h1, ?_⟩
    cases w
    · exact ih x hx n c h2
    · exact ih x hx (n + 1) (c + 1) h2
theorem goodL_rz {n c : Nat} {b : Pl} (h : GoodL n b) : GoodL (n + 1) (rzL c b) := by
  rw [goodL_iff] at h ⊢
  rw [rzL_map]
  intro q hq
  obtain ⟨x, hx, rfl⟩ := List.mem_map.mp hq
  exact ⟨(h x hx).1, good_rz x.2 n c (h x hx).2⟩
/-! ### first facts of the plain form -/
theorem mp_pos (p : Pt) : 1 ≤ (mp p).1 := by
  cases p with
  | name x => rw [mp_name]; exact Nat.le_refl _
  | got d => rw [mp_got]; exact Nat.le_refl _
  | box w d b =>
    cases w
    · rw [mp_letter]; exact Nat.le_refl _
    · rw [mp_wait]
      unfold folded
      split
      · exact Nat.le_add_left _ _
      · exact Nat.le_refl _
theorem pos_pre {b : Pl} (h : Pos b) : Pos (preL b) := by
  rw [preL_map]
  intro q hq
  obtain ⟨x, hx, rfl⟩ := List.mem_map.mp hq
  exact Nat.mul_le_mul (h x hx) (mp_pos x.2)
theorem plain_spec {b : Pl} (h : Pos b) : Asc (plainOf b) ∧ Pos (plainOf b) ∧ ∀ t, mu t (plainOf b) = mu t (preL b) := sort_spec (pos_pre h)
theorem plain_part {b : Pl} (h : Pos b) {q : Nat × Pt} (hq : q ∈ plainOf b) : ∃ x ∈ b, q.2 = (mp x.2).2 := by
  obtain ⟨c, hc⟩ := sort_parts (pos_pre h) hq
  rw [preL_map] at hc
  obtain ⟨x, hx, e⟩ := List.mem_map.mp hc
  exact ⟨x, hx, (congrArg Prod.snd e).symm⟩
theorem plain_all {b : Pl} (h : Pos b) {C : Pt → Prop} (hc : ∀ x ∈ b, C (mp x.2).2) : ∀ q ∈ plainOf b, C q.2 := fun q hq => by
  obtain ⟨x, hx, e⟩ := plain_part h hq
  rw [e]
  exact hc x hx
theorem good_mp : ∀ (p : Pt) (n : Nat), Good n p → Good n (mp p).2 := by
  refine Pt.ind (fun x n h => by rw [mp_name]; exact h) (fun d n h => by rw [mp_got]; exact h) (fun w a b ih n h => ?_)
  rw [good_box] at h
  have pb := h.2.pos
  obtain ⟨s1, s2, _⟩ := plain_spec pb
  have gB : GoodL (if w = true then n + 1 else n) (plainOf b) := (goodL_iff _ _).mpr fun q hq =>
    ⟨s2 q hq, plain_all pb (C := Good (if w = true then n + 1 else n)) (fun x hx => ih x hx _ ((goodL_iff _ _).mp h.2 x hx).2) q hq⟩
  cases w
  · rw [mp_letter, good_box]
    exact ⟨h.1, gB⟩
  · rw [mp_wait]
    obtain ⟨m, R, _, e, _, _, hsub, _, _, _⟩ := folded_form (d := a) s1 s2
    rw [e, good_box]
    exact ⟨h.1, (goodL_iff _ _).mpr fun q hq => (goodL_iff _ _).mp gB q (hsub q hq)⟩
theorem goodL_plain {n : Nat} {b : Pl} (h : GoodL n b) : GoodL n (plainOf b) := (goodL_iff _ _).mpr fun q hq =>
  ⟨(plain_spec h.pos).2.1 q hq, plain_all h.pos (C := Good n) (fun x hx => good_mp x.2 n ((goodL_iff _ _).mp h x hx).2) q hq⟩
theorem pre_rz_of {c : Nat} : ∀ b : Pl, (∀ q ∈ b, mp (rzP c q.2) = ((mp q.2).1, rzP c (mp q.2).2)) → preL (rzL c b) = rzL c (preL b)
  | [], _ => by rw [rzL_nil, preL, rzL_nil]
  | (n, p) :: r, h => by
    have e : mp (rzP c p) = ((mp p).1, rzP c (mp p).2) := h (n, p) (List.mem_cons_self ..)
    rw [rzL_cons, preL, preL, rzL_cons, pre_rz_of r fun q hq => h q (List.mem_cons_of_mem _ hq), e]
theorem mp_rz : ∀ (p : Pt) (n c : Nat), Good n p → mp (rzP c p) = ((mp p).1, rzP c (mp p).2) := by
  refine Pt.ind (fun x n c _ => by rw [rzP_name, mp_name, rzP_name]) (fun d n c _ => ?_) (fun w a b ih n c h => ?_)
  · rw [mp_got, rzP_got]
    split <;> rw [mp_got]
  · rw [good_box] at h
    have pb := h.2.pos
    have hp : ∀ e, plainOf (rzL e b) = rzL e (plainOf b) := fun e => by
      show sortItems (preL (rzL e b)) = rzL e (sortItems (preL b))
      rw [pre_rz_of b fun q hq => ih q hq _ e ((goodL_iff _ _).mp h.2 q hq).2, sort_rz (pos_pre pb)]
    rw [rzP_box]
    cases w
    · rw [mp_letter, mp_letter, if_neg Bool.false_ne_true, hp, rzP_box, if_neg Bool.false_ne_true]
    · rw [mp_wait, mp_wait, if_pos rfl, hp]
      obtain ⟨s1, s2, _⟩ := plain_spec pb
      obtain ⟨m, R, _, e, _⟩ := folded_form (d := a) s1 s2
      rw [folded_rz (Nat.le_add_left _ _) e, e, rzP_box, if_pos rfl]
theorem plain_rz {n c : Nat} {b : Pl} (h : GoodL n b) : plainOf (rzL c b) = rzL c (plainOf b) := by
  show sortItems (preL (rzL c b)) = rzL c (sortItems (preL b))
  rw [pre_rz_of b fun q hq => mp_rz q.2 n c ((goodL_iff _ _).mp h q hq).2, sort_rz (pos_pre h.pos)]
/-! ### plain plans stay -/
theorem plain_fix {l : Pl} (ha : Asc l) (pl : Pos l) (h : ∀ q ∈ l, mp q.2 = (1, q.2)) : plainOf l = l := by
  have e : preL l = l := by
    rw [preL_map]
    have e2 : l.map (fun q => (q.1 * (mp q.2).1, (mp q.2).2)) = l.map id := List.map_congr_left fun q hq => by rw [h q hq, Nat.mul_one]; rfl
    rw [e2, List.map_id]
  show sortItems (preL l) = l
  rw [e, sort_id pl ha]
theorem prime_mp : ∀ (p : Pt) (n : Nat), Good n p → mp (mp p).2 = (1, (mp p).2) := by
  refine Pt.ind (fun x n _ => by rw [mp_name, mp_name]) (fun d n _ => by rw [mp_got, mp_got]) (fun w a b ih n h => ?_)
  rw [good_box] at h
  have pb := h.2.pos
  obtain ⟨s1, s2, _⟩ := plain_spec pb
  have hB : ∀ q ∈ plainOf b, mp q.2 = (1, q.2) := plain_all pb (C := fun p => mp p = (1, p)) fun x hx => ih x hx _ ((goodL_iff _ _).mp h.2 x hx).2
  have gB := goodL_plain h.2
  cases w
  · rw [mp_letter, mp_letter, plain_fix s1 s2 hB]
  · rw [mp_wait]
    obtain ⟨m, R, hm, e, r1, r2, hsub, _, _, alt⟩ := folded_form (d := a) s1 s2
    rw [e]
    have eR : plainOf R = R := plain_fix r1 r2 fun q hq => hB q (hsub q hq)
    show mp (Pt.box true a R) = (1, Pt.box true a R)
    rw [mp_wait, eR]
    rcases alt with ⟨_, rfl, z⟩ | ⟨i, k, _, _, _, hi⟩
    · exact folded_miss fun i _ => z i
    · obtain ⟨m2, R2, hm2, e2, _, _, _, _, _, alt2⟩ := folded_form (d := a) r1 r2
      rcases alt2 with ⟨q1, q2, _⟩ | ⟨j, l, hl, q1, _, _⟩
      · rw [e2, q1, q2]
      · have gR : GoodL (n + 1) R := (goodL_iff _ _).mpr fun q hq => (goodL_iff _ _).mp (show GoodL (n + 1) (plainOf b) from gB) q (hsub q hq)
        have w1 : mp (Pt.box true a (rzL 1 R)) = (1, Pt.box true a (rzL 1 R)) := hB _ (List.mem_of_getElem? hi)
        rw [mp_wait, plain_rz gR, eR, folded_rz (Nat.le_refl 1) e2] at w1
        have w2 : m2 = 1 := congrArg Prod.fst w1
        omega
theorem plain_prime {n : Nat} {b : Pl} (h : GoodL n b) : ∀ q ∈ plainOf b, mp q.2 = (1, q.2) :=
  plain_all h.pos (C := fun p => mp p = (1, p)) fun x hx => prime_mp x.2 n ((goodL_iff _ _).mp h x hx).2
theorem plain_again {n : Nat} {b : Pl} (h : GoodL n b) : plainOf (plainOf b) = plainOf b :=
  plain_fix (plain_spec h.pos).1 (plain_spec h.pos).2.1 (plain_prime h)
/-! ### sizes are kept -/
theorem sz_erase {B : Pl} {i k : Nat} {p : Pt} (e : B[i]? = some (k, p)) : szL B = szL (B.eraseIdx i) + k * sz p := by
  obtain ⟨hi, e2⟩ := List.getElem?_eq_some_iff.mp e
  have h : B = B.take i ++ (k, p) :: B.drop (i + 1) := by
    rw [← e2, ← List.drop_eq_getElem_cons hi, List.take_append_drop]
  have h2 : szL B = szL (B.take i ++ (k, p) :: B.drop (i + 1)) := congrArg szL h
  rw [h2, List.eraseIdx_eq_take_drop_succ, szL_append, szL_append, szL_cons]
  omega
theorem szL_pre_of : ∀ b : Pl, (∀ q ∈ b, (mp q.2).1 * sz (mp q.2).2 = sz q.2) → szL (preL b) = szL b
  | [], _ => by rw [preL]
  | (n, p) :: r, h => by
    have e : (mp p).1 * sz (mp p).2 = sz p := h (n, p) (List.mem_cons_self ..)
    rw [preL, szL_cons, szL_cons, szL_pre_of r fun q hq => h q (List.mem_cons_of_mem _ hq), Nat.mul_assoc, e]
theorem sz_folded {d : List Nat} {B : Pl} (ha : Asc B) (pb : Pos B) : (folded d B).1 * sz (folded d B).2 = 1 + szL B := by
  obtain ⟨m, R, hm, e, _, _, _, _, _, alt⟩ := folded_form (d := d) ha pb
  rw [e]
  show m * sz (Pt.box true d R) = 1 + szL B
  rcases alt with ⟨q1, q2, _⟩ | ⟨i, k, _, q1, q2, hi⟩
  · rw [q1, q2, sz_box, Nat.one_mul]
  · rw [sz_erase hi, ← q2, sz_box, sz_box, szL_rz, q1, Nat.add_mul, Nat.one_mul]
    omega
theorem sz_mp : ∀ (p : Pt) (n : Nat), Good n p → (mp p).1 * sz (mp p).2 = sz p := by
  refine Pt.ind (fun x n _ => by rw [mp_name, Nat.one_mul]) (fun d n _ => by rw [mp_got, Nat.one_mul]) (fun w a b ih n h => ?_)
  rw [good_box] at h
  have pb := h.2.pos
  obtain ⟨s1, s2, _⟩ := plain_spec pb
  have eB : szL (plainOf b) = szL b := (sort_sz _).trans (szL_pre_of b fun q hq => ih q hq _ ((goodL_iff _ _).mp h.2 q hq).2)
  cases w
  · rw [mp_letter, Nat.one_mul, sz_box, sz_box, eB]
  · rw [mp_wait, sz_folded s1 s2, sz_box, eB]
theorem szL_pre {n : Nat} {b : Pl} (h : GoodL n b) : szL (preL b) = szL b := szL_pre_of b fun q hq => sz_mp q.2 n ((goodL_iff _ _).mp h q hq).2
theorem szL_plain {n : Nat} {b : Pl} (h : GoodL n b) : szL (plainOf b) = szL b := (sort_sz _).trans (szL_pre h)
/-! ### how many items there are, how deep -/
mutual
def nd : Pt → Nat
  | .name _ => 1
  | .got _ => 1
  | .box _ _ b => 1 + ndL b
def ndL : List (Nat × Pt) → Nat
  | [] => 0
  | (_, p) :: r => nd p + ndL r
end
mutual
def dp : Pt → Nat
  | .name _ => 0
  | .got _ => 0
  | .box _ _ b => 1 + dpL b
def dpL : List (Nat × Pt) → Nat
  | [] => 0
  | (_, p) :: r => max (dp p) (dpL r)
end
theorem ndL_nil : ndL [] = 0 := by rw [ndL]
theorem ndL_cons (c : Nat) (p : Pt) (r : Pl) : ndL ((c, p) :: r) = nd p + ndL r := by rw [ndL]
theorem dpL_nil : dpL [] = 0 := by rw [dpL]
theorem dpL_cons (c : Nat) (p : Pt) (r : Pl) : dpL ((c, p) :: r) = max (dp p) (dpL r) := by rw [dpL]
theorem nd_box (w : Bool) (d : List Nat) (b : Pl) : nd (.box w d b) = 1 + ndL b := by rw [nd]
theorem dp_box (w : Bool) (d : List Nat) (b : Pl) : dp (.box w d b) = 1 + dpL b := by rw [dp]
theorem nd_pos (p : Pt) : 1 ≤ nd p := by cases p <;> simp only [nd] <;> omega
theorem ndL_append (a b : Pl) : ndL (a ++ b) = ndL a + ndL b := by
  induction a with
  | nil => rw [List.nil_append, ndL_nil, Nat.zero_add]
  | cons q r ih => obtain ⟨c, p⟩ := q; rw [List.cons_append, ndL_cons, ndL_cons, ih]; omega
theorem ndL_one (q : Nat × Pt) : ndL [q] = nd q.2 := by obtain ⟨c, p⟩ := q; rw [ndL_cons, ndL_nil]; rfl
theorem ndL_len (b : Pl) : b.length ≤ ndL b := by
  induction b with
  | nil => exact Nat.zero_le _
  | cons q r ih => obtain ⟨c, p⟩ := q; rw [ndL_cons, List.length_cons]; have := nd_pos p; omega
theorem dpL_le {b : Pl} {k : Nat} : dpL b ≤ k ↔ ∀ q ∈ b, dp q.2 ≤ k := by
  induction b with
  | nil => rw [dpL_nil]; exact ⟨fun _ _ h => absurd h List.not_mem_nil, fun _ => Nat.zero_le _⟩
  | cons q r ih =>
    obtain ⟨c, p⟩ := q
    rw [dpL_cons, Nat.max_le, ih]
    exact ⟨fun h q hq => (List.mem_cons.mp hq).elim (fun e => by rw [e]; exact h.1) (h.2 q), fun h => ⟨h (c, p) (List.mem_cons_self ..), fun q hq => h q (List.mem_cons_of_mem _ hq)⟩⟩
theorem dp_mem {b : Pl} {q : Nat × Pt} (h : q ∈ b) : dp q.2 ≤ dpL b := dpL_le.mp (Nat.le_refl _) q h
theorem dpL_append (a b : Pl) : dpL (a ++ b) = max (dpL a) (dpL b) := by
  induction a with
  | nil => rw [List.nil_append, dpL_nil, Nat.zero_max]
  | cons q r ih => obtain ⟨c, p⟩ := q; rw [List.cons_append, dpL_cons, dpL_cons, ih, Nat.max_assoc]
theorem dpL_one (q : Nat × Pt) : dpL [q] = dp q.2 := by obtain ⟨c, p⟩ := q; rw [dpL_cons, dpL_nil, Nat.max_zero]
theorem ndL_mem {b : Pl} {q : Nat × Pt} (h : q ∈ b) : nd q.2 ≤ ndL b := by
  induction b with
  | nil => cases h
  | cons x r ih =>
    obtain ⟨c, p⟩ := x
    rw [ndL_cons]
    rcases List.mem_cons.mp h with e | e
    · rw [e]; exact Nat.le_add_right _ _
    · exact Nat.le_trans (ih e) (Nat.le_add_left _ _)
theorem ndL_map_le {f : Nat × Pt → Nat × Pt} : ∀ b : Pl, (∀ q ∈ b, nd (f q).2 ≤ nd q.2) → ndL (b.map f) ≤ ndL b
  | [], _ => Nat.le_refl _
  | (c, p) :: r, h => by
    have h1 := h (c, p) (List.mem_cons_self ..)
    have h2 := ndL_map_le r fun q hq => h q (List.mem_cons_of_mem _ hq)
    have e : ndL (((c, p) :: r).map f) = nd (f (c, p)).2 + ndL (r.map f) := by
      rw [List.map_cons]
      obtain ⟨d, s⟩ := f (c, p)
      rw [ndL_cons]
    rw [e, ndL_cons]
    exact Nat.add_le_add h1 h2
theorem ndL_perm {a b : Pl} (h : a.Perm b) : ndL a = ndL b := by
  induction h with
  | nil => rfl
  | cons x _ ih => obtain ⟨c, p⟩ := x; rw [ndL_cons, ndL_cons, ih]
  | swap x y l => obtain ⟨c, p⟩ := x; obtain ⟨d, q⟩ := y; rw [ndL_cons, ndL_cons, ndL_cons, ndL_cons]; omega
  | trans _ _ h1 h2 => exact h1.trans h2
theorem joinStep_nd (acc : Pl) (q : Nat × Pt) : ndL (joinStep acc q) ≤ ndL acc + nd q.2 := by
  rcases list_end acc with rfl | ⟨a, ⟨c, p⟩, rfl⟩
  · rw [joinStep_nil, ndL_nil, Nat.zero_add, ndL_one]
    exact Nat.le_refl _
  · by_cases e : p = q.2
    · subst e
      rw [joinStep_same, ndL_append, ndL_append, ndL_one, ndL_one]
      exact Nat.le_add_right _ _
    · rw [joinStep_other a c p q e, ndL_append (a ++ [(c, p)]) [q], ndL_one]
      exact Nat.le_refl _
theorem join_nd : ∀ (l acc : Pl), ndL (l.foldl joinStep acc) ≤ ndL acc + ndL l
  | [], acc => by rw [List.foldl_nil, ndL_nil]; exact Nat.le_refl _
  | q :: r, acc => by
    rw [List.foldl_cons]
    have h1 := join_nd r (joinStep acc q)
    have h2 := joinStep_nd acc q
    obtain ⟨c, p⟩ := q
    rw [ndL_cons]
    have h2' : ndL (joinStep acc (c, p)) ≤ ndL acc + nd p := h2
    omega
theorem sort_nd (l : Pl) : ndL (sortItems l) ≤ ndL l := by
  have h := join_nd (l.mergeSort leP) []
  rw [ndL_nil, Nat.zero_add, ndL_perm (List.mergeSort_perm l leP)] at h
  exact h
theorem nd_rz : ∀ (p : Pt) (c : Nat), nd (rzP c p) = nd p ∧ dp (rzP c p) = dp p := by
  refine Pt.ind (fun x c => by rw [rzP_name]; exact ⟨rfl, rfl⟩) (fun d c => ?_) (fun w e b ih c => ?_)
  · rw [rzP_got]
    split <;> simp only [nd, dp, and_self]
  · rw [rzP_box, nd_box, nd_box, dp_box, dp_box, rzL_map]
    have key : ∀ (e : Nat) (r : Pl), (∀ q ∈ r, nd (rzP e q.2) = nd q.2 ∧ dp (rzP e q.2) = dp q.2) → ndL (r.map fun q => (q.1, rzP e q.2)) = ndL r ∧ dpL (r.map fun q => (q.1, rzP e q.2)) = dpL r := by
      intro e r
      induction r with
      | nil => exact fun _ => ⟨rfl, rfl⟩
      | cons q r ihr =>
        obtain ⟨n, p⟩ := q
        intro h
        obtain ⟨a1, a2⟩ := h (n, p) (List.mem_cons_self ..)
        obtain ⟨b1, b2⟩ := ihr fun q hq => h q (List.mem_cons_of_mem _ hq)
        have a1' : nd (rzP e p) = nd p := a1
        have a2' : dp (rzP e p) = dp p := a2
        rw [List.map_cons, ndL_cons, ndL_cons, dpL_cons, dpL_cons, a1', a2', b1, b2]
        exact ⟨rfl, rfl⟩
    obtain ⟨k1, k2⟩ := key _ b fun q hq => ih q hq _
    rw [k1, k2]
    exact ⟨rfl, rfl⟩
theorem ndL_rz (b : Pl) (c : Nat) : ndL (rzL c b) = ndL b ∧ dpL (rzL c b) = dpL b := by
  have h := nd_rz (.box false [] b) c
  rw [rzP_box, if_neg Bool.false_ne_true, nd_box, nd_box, dp_box, dp_box] at h
  exact ⟨by omega, by omega⟩
theorem nd_mp : ∀ (p : Pt) (n : Nat), Good n p → nd (mp p).2 ≤ nd p ∧ dp (mp p).2 ≤ dp p := by
  refine Pt.ind (fun x n _ => by rw [mp_name]; exact ⟨Nat.le_refl _, Nat.le_refl _⟩) (fun d n _ => by rw [mp_got]; exact ⟨Nat.le_refl _, Nat.le_refl _⟩) (fun w a b ih n h => ?_)
  rw [good_box] at h
  have pb := h.2.pos
  obtain ⟨s1, s2, _⟩ := plain_spec pb
  have e1 : ndL (plainOf b) ≤ ndL b := Nat.le_trans (sort_nd _) (by
    rw [preL_map]
    exact ndL_map_le b fun q hq => (ih q hq _ ((goodL_iff _ _).mp h.2 q hq).2).1)
  have e2 : dpL (plainOf b) ≤ dpL b := dpL_le.mpr (plain_all pb (C := fun p => dp p ≤ dpL b) fun x hx => Nat.le_trans (ih x hx _ ((goodL_iff _ _).mp h.2 x hx).2).2 (dp_mem hx))
  cases w
  · rw [mp_letter, nd_box, nd_box, dp_box, dp_box]
    omega
  · rw [mp_wait]
    obtain ⟨m, R, _, e, _, _, hsub, _, _, alt⟩ := folded_form (d := a) s1 s2
    rw [e, nd_box, nd_box, dp_box, dp_box]
    have f1 : ndL R ≤ ndL (plainOf b) := by
      rcases alt with ⟨_, q2, _⟩ | ⟨i, k, _, _, q2, hi⟩
      · rw [q2]; exact Nat.le_refl _
      · obtain ⟨hlt, e3⟩ := List.getElem?_eq_some_iff.mp hi
        rw [q2, List.eraseIdx_eq_take_drop_succ, ndL_append]
        have h3 : ndL (plainOf b) = ndL ((plainOf b).take i ++ (plainOf b).drop i) := by rw [List.take_append_drop]
        rw [h3, ndL_append, List.drop_eq_getElem_cons hlt]
        have h4 : ndL ((plainOf b)[i] :: (plainOf b).drop (i + 1)) = nd ((plainOf b)[i]).2 + ndL ((plainOf b).drop (i + 1)) := by
          obtain ⟨c, p⟩ := (plainOf b)[i]
          rw [ndL_cons]
        rw [h4]
        omega
    have f2 : dpL R ≤ dpL (plainOf b) := dpL_le.mpr fun q hq => dp_mem (hsub q hq)
    omega
theorem ndL_plain {n : Nat} {b : Pl} (h : GoodL n b) : ndL (plainOf b) ≤ ndL b ∧ dpL (plainOf b) ≤ dpL b :=
  ⟨Nat.le_trans (sort_nd _) (by rw [preL_map]; exact ndL_map_le b fun q hq => (nd_mp q.2 n ((goodL_iff _ _).mp h q hq).2).1),
    dpL_le.mpr (plain_all h.pos (C := fun p => dp p ≤ dpL b) fun x hx => Nat.le_trans (nd_mp x.2 n ((goodL_iff _ _).mp h x hx).2).2 (dp_mem hx))⟩
theorem ndL_sz : ∀ b : Pl, Pos b → (∀ q ∈ b, nd q.2 ≤ sz q.2) → ndL b ≤ szL b
  | [], _, _ => Nat.zero_le _
  | (c, p) :: r, pb, h => by
    rw [ndL_cons, szL_cons]
    have h1 := h (c, p) (List.mem_cons_self ..)
    have h2 : 1 ≤ c := pb (c, p) (List.mem_cons_self ..)
    exact Nat.add_le_add (Nat.le_trans h1 (Nat.le_mul_of_pos_left _ h2)) (ndL_sz r (fun q hq => pb q (List.mem_cons_of_mem _ hq)) fun q hq => h q (List.mem_cons_of_mem _ hq))
theorem nd_sz : ∀ (p : Pt) (n : Nat), Good n p → nd p ≤ sz p := by
  refine Pt.ind (fun x n _ => by simp only [nd, sz, Nat.le_refl]) (fun d n _ => by simp only [nd, sz, Nat.le_refl]) (fun w a b ih n h => ?_)
  rw [good_box] at h
  rw [nd_box, sz_box]
  have := ndL_sz b h.2.pos fun q hq => ih q hq _ ((goodL_iff _ _).mp h.2 q hq).2
  omega
theorem dp_nd : ∀ p : Pt, dp p ≤ nd p := by
  refine Pt.ind (fun x => by simp only [nd, dp, Nat.zero_le]) (fun d => by simp only [nd, dp, Nat.zero_le]) (fun w a b ih => ?_)
  rw [nd_box, dp_box]
  have : dpL b ≤ ndL b := dpL_le.mpr fun q hq => Nat.le_trans (ih q hq) (ndL_mem hq)
  omega
theorem dpL_nd (b : Pl) : dpL b ≤ ndL b := dpL_le.mpr fun q hq => Nat.le_trans (dp_nd q.2) (ndL_mem hq)
theorem ndL_szL {n : Nat} {b : Pl} (h : GoodL n b) : ndL b ≤ szL b := ndL_sz b h.pos fun q hq => nd_sz q.2 n ((goodL_iff _ _).mp h q hq).2
end G6

set_option autoImplicit false
/-! Hidden plans; the law's own plain form; the greatest root. -/
namespace G6
/-! ### hidden plans -/
def Ins (acc : Pl) (x : Nat × Pt) (acc' : Pl) : Prop := ∃ i, i ≤ acc.length ∧ acc' = acc.take i ++ [x] ++ acc.drop i
/-- the turns that hide: the items still to come, the row so far, the row at the end -/
inductive HidL (R : Pt → Pt → Prop) : Pl → Pl → Pl → Prop
  | nil (acc : Pl) : HidL R [] acc acc
  | plain {c : Nat} {p p' : Pt} {r acc acc1 out : Pl} : R p p' → Ins acc (c, p') acc1 → HidL R r acc1 out → HidL R ((c, p) :: r) acc out
  | split {c : Nat} {p p' : Pt} {r acc acc1 acc2 out : Pl} : R p p' → Ins acc (1, p') acc1 → Ins acc1 (c + 1, p') acc2 → HidL R r acc2 out → HidL R ((c + 2, p) :: r) acc out
  | unfold {c : Nat} {p : Pt} {d : List Nat} {b : Pl} {r acc acc1 out : Pl} : R p (.box true d b) → Ins acc (1, .box true d (b ++ [(c + 1, .box true d (rzL 1 b))])) acc1 → HidL R r acc1 out → HidL R ((c + 2, p) :: r) acc out
def HidP : Nat → Pt → Pt → Prop
  | _, .name x, p' => p' = .name x
  | _, .got d, p' => p' = .got d
  | 0, .box _ _ _, _ => False
  | n + 1, .box w d b, p' => ∃ b', HidL (HidP n) b [] b' ∧ p' = .box w d b'
/-- what a hidden part keeps -/
structure Kept (p p' : Pt) : Prop where
  good : ∀ m, Good m p → Good m p'
  mp : ∀ m, Good m p → mp p' = mp p
  sz : ∀ m, Good m p → sz p' = sz p
  nd : nd p' ≤ 2 ^ dp p * nd p
  dp : dp p' ≤ 2 * dp p - 1
  nm : ∀ x, p' = .name x → p = .name x
theorem Ins.perm {acc acc' : Pl} {x : Nat × Pt} (h : Ins acc x acc') : acc'.Perm (x :: acc) := by
  obtain ⟨i, _, rfl⟩ := h
  have h1 : (acc.take i ++ [x] ++ acc.drop i).Perm ([x] ++ acc.take i ++ acc.drop i) := List.Perm.append_right _ List.perm_append_comm
  have h2 : [x] ++ acc.take i ++ acc.drop i = x :: acc := by
    rw [List.append_assoc, List.take_append_drop]
    rfl
  rw [h2] at h1
  exact h1
theorem Ins.good {acc acc' : Pl} {x : Nat × Pt} {m : Nat} (h : Ins acc x acc') (g : GoodL m acc) (gx : 1 ≤ x.1 ∧ Good m x.2) : GoodL m acc' := by
  refine goodL_perm h.perm ((goodL_iff _ _).mpr fun q hq => ?_)
  rcases List.mem_cons.mp hq with e | e
  · rw [e]; exact gx
  · exact (goodL_iff _ _).mp g q e
theorem pre_perm {a b : Pl} (h : a.Perm b) : (preL a).Perm (preL b) := by
  rw [preL_map, preL_map]
  exact h.map _
theorem Ins.mu {acc acc' : Pl} {x : Nat × Pt} (h : Ins acc x acc') (t : Pt) : mu t (preL acc') = (if (G6.mp x.2).2 = t then x.1 * (G6.mp x.2).1 else 0) + mu t (preL acc) := by
  obtain ⟨c, p⟩ := x
  rw [mu_perm (pre_perm h.perm), preL, mu_cons]
theorem Ins.sz {acc acc' : Pl} {x : Nat × Pt} (h : Ins acc x acc') : szL acc' = x.1 * G6.sz x.2 + szL acc := by
  obtain ⟨c, p⟩ := x
  rw [szL_perm h.perm, szL_cons]
theorem Ins.nd {acc acc' : Pl} {x : Nat × Pt} (h : Ins acc x acc') : ndL acc' = G6.nd x.2 + ndL acc := by
  obtain ⟨c, p⟩ := x
  rw [ndL_perm h.perm, ndL_cons]
theorem Ins.dp {acc acc' : Pl} {x : Nat × Pt} (h : Ins acc x acc') {k : Nat} (h1 : dpL acc ≤ k) (h2 : G6.dp x.2 ≤ k) : dpL acc' ≤ k :=
  dpL_le.mpr fun q hq => (List.mem_cons.mp (h.perm.mem_iff.mp hq)).elim (fun e => by rw [e]; exact h2) fun e => dpL_le.mp h1 q e
theorem Ins.names {acc acc' : Pl} {x : Nat × Pt} (h : Ins acc x acc') {C : Pt → Prop} (h1 : ∀ q ∈ acc, C q.2) (h2 : C x.2) : ∀ q ∈ acc', C q.2 :=
  fun q hq => (List.mem_cons.mp (h.perm.mem_iff.mp hq)).elim (fun e => by rw [e]; exact h2) fun e => h1 q e
/-- the wait that is unfolded folds to so many times as many -/
theorem unfold_mp {n : Nat} {d : List Nat} {b : Pl} (g : Good n (.box true d b)) (c : Nat) :
    mp (.box true d (b ++ [(c + 1, .box true d (rzL 1 b))])) = ((c + 2) * (mp (.box true d b)).1, (mp (.box true d b)).2) := by
  have g0 := g
  rw [good_box, if_pos rfl] at g
  obtain ⟨s1, s2, s3⟩ := plain_spec g.2.pos
  obtain ⟨m, R, hm, e, r1, r2, _, _, hmu, _⟩ := folded_form (d := d) s1 s2
  have eW : mp (.box true d (rzL 1 b)) = (m, .box true d (rzL 1 R)) := by
    rw [mp_wait, plain_rz g.2, folded_rz (Nat.le_refl 1) e]
  rw [mp_wait, mp_wait, e]
  have hp : Pos (b ++ [(c + 1, Pt.box true d (rzL 1 b))]) := fun q hq => by
    rcases List.mem_append.mp hq with hq | hq
    · exact g.2.pos q hq
    · rw [List.mem_singleton.mp hq]; exact Nat.le_add_left _ _
  obtain ⟨t1, t2, t3⟩ := plain_spec hp
  have hj : 1 ≤ (c + 2) * m - 1 := by
    have : 2 * 1 ≤ (c + 2) * m := Nat.mul_le_mul (by omega) hm
    omega
  have k := fold_canon (d := d) t1 t2 r1 r2 hj fun t => by
    rw [t3, preL_append, mu_append, ← s3, hmu]
    have e1 : preL [(c + 1, Pt.box true d (rzL 1 b))] = [((c + 1) * m, Pt.box true d (rzL 1 R))] := by
      rw [preL, preL, eW]
    rw [e1, mu_cons]
    show mu t R + (if Pt.box true d (rzL 1 R) = t then m - 1 else 0) + ((if Pt.box true d (rzL 1 R) = t then (c + 1) * m else 0) + 0) = _
    have e2 : (c + 2) * m = (c + 1) * m + m := by rw [show c + 2 = (c + 1) + 1 by omega, Nat.add_mul, Nat.one_mul]
    split <;> omega
  rw [k]
  have : 1 ≤ (c + 2) * m := by omega
  rw [Nat.sub_add_cancel this]
theorem HidL.kept {R : Pt → Pt → Prop} (hR : ∀ p p', R p p' → Kept p p') {b acc out : Pl} (h : HidL R b acc out) : ∀ (m : Nat), GoodL m b → GoodL m acc →
    GoodL m out ∧ (∀ t, mu t (preL out) = mu t (preL b) + mu t (preL acc)) ∧ szL out = szL b + szL acc := by
  induction h with
  | nil acc => exact fun m _ ga => ⟨ga, fun t => (Nat.zero_add _).symm, by rw [szL_nil, Nat.zero_add]⟩
  | @plain c p p' r acc acc1 out hp hi _ ih =>
    intro m g ga
    rw [GoodL] at g
    have k := hR _ _ hp
    have ga1 := hi.good ga ⟨g.1, k.good m g.2.1⟩
    obtain ⟨i1, i2, i3⟩ := ih m g.2.2 ga1
    refine ⟨i1, fun t => ?_, ?_⟩
    · rw [i2, hi.mu t, preL, mu_cons]
      dsimp only
      rw [k.mp m g.2.1]
      omega
    · rw [i3, hi.sz, szL_cons]
      dsimp only
      rw [k.sz m g.2.1]
      omega
  | @split c p p' r acc acc1 acc2 out hp h1 h2 _ ih =>
    intro m g ga
    rw [GoodL] at g
    have k := hR _ _ hp
    have gp := k.good m g.2.1
    have ga1 := h1.good ga ⟨Nat.le_refl _, gp⟩
    have ga2 := h2.good ga1 ⟨Nat.le_add_left _ _, gp⟩
    obtain ⟨i1, i2, i3⟩ := ih m g.2.2 ga2
    refine ⟨i1, fun t => ?_, ?_⟩
    · rw [i2, h2.mu t, h1.mu t, preL, mu_cons]
      dsimp only
      rw [k.mp m g.2.1]
      have e2 : (c + 2) * (G6.mp p).1 = (c + 1) * (G6.mp p).1 + 1 * (G6.mp p).1 := by rw [← Nat.add_mul]
      split <;> omega
    · rw [i3, h2.sz, h1.sz, szL_cons]
      dsimp only
      rw [k.sz m g.2.1]
      have e2 : (c + 2) * G6.sz p = (c + 1) * G6.sz p + 1 * G6.sz p := by rw [← Nat.add_mul]
      omega
  | @«unfold» c p d b r acc acc1 out hp hi _ ih =>
    intro m g ga
    rw [GoodL] at g
    have k := hR _ _ hp
    have gp := k.good m g.2.1
    have gb := gp
    rw [good_box, if_pos rfl] at gb
    have gx : Good m (.box true d (b ++ [(c + 1, .box true d (rzL 1 b))])) := by
      rw [good_box, if_pos rfl]
      exact ⟨gb.1, goodL_append.mpr ⟨gb.2, goodL_one.mpr ⟨Nat.le_add_left _ _, (good_box _ _ _ _).mpr ⟨gb.1, goodL_rz gb.2⟩⟩⟩⟩
    have ga1 := hi.good ga ⟨Nat.le_refl _, gx⟩
    obtain ⟨i1, i2, i3⟩ := ih m g.2.2 ga1
    refine ⟨i1, fun t => ?_, ?_⟩
    · rw [i2, hi.mu t, preL, mu_cons]
      dsimp only
      rw [unfold_mp gp c, k.mp m g.2.1, Nat.one_mul]
      dsimp only
      omega
    · rw [i3, hi.sz, szL_cons]
      dsimp only
      have e := k.sz m g.2.1
      rw [sz_box] at e
      rw [sz_box, szL_append, szL_one]
      dsimp only
      rw [sz_box, szL_rz, ← e, Nat.one_mul]
      have e2 : (c + 2) * (1 + szL b) = (c + 1) * (1 + szL b) + (1 + szL b) := by rw [show c + 2 = (c + 1) + 1 by omega, Nat.add_mul (c + 1) 1, Nat.one_mul]
      omega
theorem pow_mono {a b : Nat} (h : a ≤ b) : 2 ^ a ≤ 2 ^ b := Nat.pow_le_pow_right (by omega) h
theorem HidL.bounds {R : Pt → Pt → Prop} (hR : ∀ p p', R p p' → Kept p p') {b acc out : Pl} (h : HidL R b acc out) : ∀ (D : Nat), dpL b ≤ D →
    ndL out ≤ ndL acc + 2 * 2 ^ D * ndL b ∧ (dpL acc ≤ 2 * D → dpL out ≤ 2 * D) ∧ ∀ z, (∀ q ∈ acc, q.2 ≠ .name z) → (∀ q ∈ b, q.2 ≠ .name z) → ∀ q ∈ out, q.2 ≠ .name z := by
  induction h with
  | nil acc => exact fun D _ => ⟨Nat.le_add_right _ _, id, fun z h _ => h⟩
  | @plain c p p' r acc acc1 out hp hi _ ih =>
    intro D hD
    rw [dpL_cons, Nat.max_le] at hD
    have k := hR _ _ hp
    obtain ⟨i1, i2, i3⟩ := ih D hD.2
    have k1 : G6.nd p' ≤ 2 ^ D * G6.nd p := Nat.le_trans k.nd (Nat.mul_le_mul_right _ (pow_mono hD.1))
    have k2 := k.dp
    refine ⟨?_, fun ha => i2 (hi.dp ha (show G6.dp p' ≤ 2 * D by omega)), fun z h1 h2 => i3 z (hi.names (C := fun t => t ≠ .name z) h1 fun e => h2 (c, p) (List.mem_cons_self ..) (k.nm z e)) fun q hq => h2 q (List.mem_cons_of_mem _ hq)⟩
    have e := hi.nd
    have e' : ndL acc1 = G6.nd p' + ndL acc := e
    rw [ndL_cons, Nat.mul_add, Nat.mul_assoc 2 (2 ^ D) (G6.nd p)]
    omega
  | @split c p p' r acc acc1 acc2 out hp h1 h2 _ ih =>
    intro D hD
    rw [dpL_cons, Nat.max_le] at hD
    have k := hR _ _ hp
    obtain ⟨i1, i2, i3⟩ := ih D hD.2
    have k1 : G6.nd p' ≤ 2 ^ D * G6.nd p := Nat.le_trans k.nd (Nat.mul_le_mul_right _ (pow_mono hD.1))
    have k2 := k.dp
    have k3 : G6.dp p' ≤ 2 * D := by omega
    refine ⟨?_, fun ha => i2 (h2.dp (h1.dp ha k3) k3), fun z g1 g2 => ?_⟩
    · have e1 : ndL acc1 = G6.nd p' + ndL acc := h1.nd
      have e2 : ndL acc2 = G6.nd p' + ndL acc1 := h2.nd
      rw [ndL_cons, Nat.mul_add, Nat.mul_assoc 2 (2 ^ D) (G6.nd p)]
      omega
    · have hz : p' ≠ .name z := fun e => g2 (c + 2, p) (List.mem_cons_self ..) (k.nm z e)
      exact i3 z (h2.names (C := fun t => t ≠ .name z) (h1.names (C := fun t => t ≠ .name z) g1 hz) hz) fun q hq => g2 q (List.mem_cons_of_mem _ hq)
  | @«unfold» c p d b r acc acc1 out hp hi _ ih =>
    intro D hD
    rw [dpL_cons, Nat.max_le] at hD
    have k := hR _ _ hp
    obtain ⟨i1, i2, i3⟩ := ih D hD.2
    have k1 : G6.nd (.box true d b) ≤ 2 ^ D * G6.nd p := Nat.le_trans k.nd (Nat.mul_le_mul_right _ (pow_mono hD.1))
    have k2 := k.dp
    rw [nd_box] at k1
    rw [dp_box] at k2
    have e1 : ndL acc1 = G6.nd (.box true d (b ++ [(c + 1, .box true d (rzL 1 b))])) + ndL acc := hi.nd
    have e2 : G6.nd (.box true d (b ++ [(c + 1, .box true d (rzL 1 b))])) = 2 * (1 + ndL b) := by
      rw [nd_box, ndL_append, ndL_one]
      show 1 + (ndL b + G6.nd (.box true d (rzL 1 b))) = _
      rw [nd_box, (ndL_rz b 1).1]
      omega
    have e3 : G6.dp (.box true d (b ++ [(c + 1, .box true d (rzL 1 b))])) = 2 + dpL b := by
      rw [dp_box, dpL_append, dpL_one]
      show 1 + max (dpL b) (G6.dp (.box true d (rzL 1 b))) = _
      rw [dp_box, (ndL_rz b 1).2]
      omega
    refine ⟨?_, fun ha => i2 (hi.dp ha (show G6.dp (.box true d (b ++ [(c + 1, .box true d (rzL 1 b))])) ≤ 2 * D by rw [e3]; omega)), fun z h1 h2 => i3 z (hi.names (C := fun t => t ≠ .name z) h1 fun e => by cases e) fun q hq => h2 q (List.mem_cons_of_mem _ hq)⟩
    rw [ndL_cons, Nat.mul_add, Nat.mul_assoc 2 (2 ^ D) (G6.nd p)]
    omega
theorem hidP_kept : ∀ (n : Nat) (p p' : Pt), HidP n p p' → Kept p p'
  | n, .name x, p', h => by
    have e : p' = .name x := by
      cases n <;> exact h
    subst e
    exact ⟨fun _ g => g, fun _ _ => rfl, fun _ _ => rfl, Nat.le_mul_of_pos_left _ (Nat.two_pow_pos _), by simp only [dp, Nat.zero_le], fun _ e => e⟩
  | n, .got d, p', h => by
    have e : p' = .got d := by
      cases n <;> exact h
    subst e
    exact ⟨fun _ g => g, fun _ _ => rfl, fun _ _ => rfl, Nat.le_mul_of_pos_left _ (Nat.two_pow_pos _), by simp only [dp, Nat.zero_le], fun _ e => e⟩
  | 0, .box w d b, p', h => False.elim h
  | n + 1, .box w d b, p', h => by
    obtain ⟨b', hb, rfl⟩ := h
    have ihn := hidP_kept n
    have hk := hb.kept ihn
    have key : ∀ m, GoodL m b → GoodL m b' ∧ plainOf b' = plainOf b ∧ szL b' = szL b := fun m g => by
      obtain ⟨h1, h2, h3⟩ := hk m g (goodL_nil m)
      refine ⟨h1, sort_eq (pos_pre h1.pos) (pos_pre g.pos) fun t => (h2 t).trans (by rw [preL]; rfl), h3.trans (by rw [szL_nil, Nat.add_zero])⟩
    obtain ⟨b1, b2, _⟩ := hb.bounds ihn (dpL b) (Nat.le_refl _)
    rw [ndL_nil, Nat.zero_add] at b1
    have b2' := b2 (by rw [dpL_nil]; exact Nat.zero_le _)
    refine ⟨fun m g => ?_, fun m g => ?_, fun m g => ?_, ?_, ?_, fun x e => by cases e⟩
    · rw [good_box] at g ⊢
      exact ⟨g.1, (key _ g.2).1⟩
    · rw [good_box] at g
      cases w
      · rw [mp_letter, mp_letter, (key _ g.2).2.1]
      · rw [mp_wait, mp_wait, (key _ g.2).2.1]
    · rw [good_box] at g
      rw [sz_box, sz_box, (key _ g.2).2.2]
    · rw [nd_box, nd_box, dp_box, Nat.pow_add, Nat.mul_add]
      have h1 : 1 ≤ 2 ^ dpL b := Nat.two_pow_pos _
      rw [Nat.pow_one, Nat.mul_one]
      omega
    · rw [dp_box, dp_box]
      omega
/-- all that is asked of a hidden plan -/
theorem hid_all {n m : Nat} {b b' : Pl} (h : HidL (HidP n) b [] b') (g : GoodL m b) : GoodL m b' ∧ (∀ t, mu t (preL b') = mu t (preL b)) ∧ szL b' = szL b ∧ ndL b' ≤ 2 * 2 ^ dpL b * ndL b ∧ dpL b' ≤ 2 * dpL b ∧
    ∀ z, (∀ q ∈ b, q.2 ≠ .name z) → ∀ q ∈ b', q.2 ≠ .name z := by
  obtain ⟨h1, h2, h3⟩ := h.kept (hidP_kept n) m g (goodL_nil m)
  obtain ⟨b1, b2, b3⟩ := h.bounds (hidP_kept n) (dpL b) (Nat.le_refl _)
  rw [ndL_nil, Nat.zero_add] at b1
  exact ⟨h1, fun t => (h2 t).trans (by rw [preL]; rfl), h3.trans (by rw [szL_nil, Nat.add_zero]), b1, b2 (by rw [dpL_nil]; exact Nat.zero_le _), fun z => b3 z fun _ hq => absurd hq List.not_mem_nil⟩
theorem hid_plain {n m : Nat} {b b' : Pl} (h : HidL (HidP n) b [] b') (g : GoodL m b) : plainOf b' = plainOf b := by
  obtain ⟨h1, h2, _⟩ := hid_all h g
  exact sort_eq (pos_pre h1.pos) (pos_pre g.pos) h2
/-! ### the law's own rule on waits -/
theorem filter_erase : ∀ {B : Pl} {i k : Nat} {p : Pt}, Asc B → B[i]? = some (k, p) → B.filter (fun q => !decide (q.2 = p)) = B.eraseIdx i
  | [], i, k, p, _, h => by simp at h
  | (c, q) :: r, 0, k, p, ha, h => by
    obtain ⟨h1, h2⟩ := List.pairwise_cons.mp ha
    have e : (c, q) = (k, p) := Option.some.inj h
    cases e
    rw [List.eraseIdx_zero, List.filter_cons_of_neg (by simp)]
    exact List.filter_eq_self.mpr fun x hx => by
      have := lt_ne (h1 x hx)
      simp only [Bool.not_eq_true', decide_eq_false_iff_not]
      exact fun e => this e.symm
  | (c, q) :: r, i + 1, k, p, ha, h => by
    obtain ⟨h1, h2⟩ := List.pairwise_cons.mp ha
    have h' : r[i]? = some (k, p) := h
    have ne : q ≠ p := lt_ne (h1 _ (List.mem_of_getElem? h'))
    rw [List.eraseIdx_cons_succ, List.filter_cons_of_pos (by simpa using ne), filter_erase h2 h']
/-! ### the greatest number that divides all counts -/
def gcdL (b : Pl) : Nat := b.foldl (fun g q => Nat.gcd g q.1) 0
theorem gcd_fold : ∀ (b : Pl) (g : Nat), (∀ m, m ∣ b.foldl (fun g q => Nat.gcd g q.1) g ↔ m ∣ g ∧ ∀ q ∈ b, m ∣ q.1)
  | [], g, m => ⟨fun h => ⟨h, fun _ hq => absurd hq List.not_mem_nil⟩, fun h => h.1⟩
  | (c, p) :: r, g, m => by
    rw [List.foldl_cons, gcd_fold r (Nat.gcd g c) m, Nat.dvd_gcd_iff]
    constructor
    · rintro ⟨⟨h1, h2⟩, h3⟩
      exact ⟨h1, fun q hq => (List.mem_cons.mp hq).elim (fun e => by rw [e]; exact h2) (h3 q)⟩
    · rintro ⟨h1, h2⟩
      exact ⟨⟨h1, h2 (c, p) (List.mem_cons_self ..)⟩, fun q hq => h2 q (List.mem_cons_of_mem _ hq)⟩
theorem gcdL_dvd {b : Pl} {m : Nat} : m ∣ gcdL b ↔ ∀ q ∈ b, m ∣ q.1 := by
  unfold gcdL
  rw [gcd_fold]
  exact ⟨fun h => h.2, fun h => ⟨Nat.dvd_zero m, h⟩⟩
theorem gcdL_nil : gcdL [] = 0 := rfl
theorem gcdL_le {b : Pl} (pb : Pos b) {q : Nat × Pt} (hq : q ∈ b) : gcdL b ≤ q.1 := Nat.le_of_dvd (pb q hq) (gcdL_dvd.mp (Nat.dvd_refl _) q hq)
theorem gcdL_pos {b : Pl} (pb : Pos b) (h : b ≠ []) : 1 ≤ gcdL b := by
  cases b with
  | nil => exact absurd rfl h
  | cons q r =>
    refine Nat.pos_of_ne_zero fun e => ?_
    have h1 := gcdL_dvd.mp (Nat.dvd_refl (gcdL (q :: r))) q (List.mem_cons_self ..)
    rw [e, Nat.zero_dvd] at h1
    have := pb q (List.mem_cons_self ..)
    omega
/-- all counts divided -/
def divL (b : Pl) (g : Nat) : Pl := b.map fun q => (q.1 / g, q.2)
def mulL (b : Pl) (k : Nat) : Pl := b.map fun q => (q.1 * k, q.2)
theorem asc_map {b : Pl} {f : Nat × Pt → Nat} (h : Asc b) : Asc (b.map fun q => (f q, q.2)) := List.pairwise_map.mpr (h.imp fun z => z)
theorem div_pos {b : Pl} {g : Nat} (pb : Pos b) (hg : 1 ≤ g) (h : g ∣ gcdL b) : Pos (divL b g) := by
  intro q hq
  obtain ⟨x, hx, rfl⟩ := List.mem_map.mp hq
  exact Nat.div_pos (Nat.le_of_dvd (pb x hx) (gcdL_dvd.mp h x hx)) hg
theorem mul_pos {b : Pl} {k : Nat} (pb : Pos b) (hk : 1 ≤ k) : Pos (mulL b k) := by
  intro q hq
  obtain ⟨x, hx, rfl⟩ := List.mem_map.mp hq
  exact Nat.mul_le_mul (pb x hx) hk
theorem good_div {n : Nat} {b : Pl} {g : Nat} (gb : GoodL n b) (hg : 1 ≤ g) (h : g ∣ gcdL b) : GoodL n (divL b g) := by
  rw [goodL_iff]
  intro q hq
  refine ⟨div_pos gb.pos hg h q hq, ?_⟩
  obtain ⟨x, hx, rfl⟩ := List.mem_map.mp hq
  exact ((goodL_iff _ _).mp gb x hx).2
theorem good_mul {n : Nat} {b : Pl} {k : Nat} (gb : GoodL n b) (hk : 1 ≤ k) : GoodL n (mulL b k) := by
  rw [goodL_iff]
  intro q hq
  refine ⟨mul_pos gb.pos hk q hq, ?_⟩
  obtain ⟨x, hx, rfl⟩ := List.mem_map.mp hq
  exact ((goodL_iff _ _).mp gb x hx).2
theorem div_plain {n : Nat} {b : Pl} {g : Nat} (gb : GoodL n b) (hg : 1 ≤ g) (h : g ∣ gcdL (plainOf b)) : plainOf (divL (plainOf b) g) = divL (plainOf b) g := by
  obtain ⟨s1, s2, _⟩ := plain_spec gb.pos
  refine plain_fix (asc_map s1) (div_pos s2 hg h) fun q hq => ?_
  obtain ⟨x, hx, rfl⟩ := List.mem_map.mp hq
  exact plain_prime gb x hx
theorem div_gcd {b : Pl} (h : 1 ≤ gcdL b) : gcdL (divL b (gcdL b)) = 1 := by
  refine Nat.dvd_one.mp ?_
  have h1 : gcdL b * gcdL (divL b (gcdL b)) ∣ gcdL b := gcdL_dvd.mpr fun q hq => by
    have h2 : gcdL (divL b (gcdL b)) ∣ q.1 / gcdL b := gcdL_dvd.mp (Nat.dvd_refl _) (q.1 / gcdL b, q.2) (List.mem_map.mpr ⟨q, hq, rfl⟩)
    have h3 := Nat.mul_dvd_mul_left (gcdL b) h2
    rw [Nat.mul_div_cancel' (gcdL_dvd.mp (Nat.dvd_refl _) q hq)] at h3
    exact h3
  exact Nat.dvd_of_mul_dvd_mul_left h (by rw [Nat.mul_one]; exact h1)
theorem div_one (b : Pl) : divL b 1 = b := by
  unfold divL
  have : b.map (fun q => (q.1 / 1, q.2)) = b.map id := List.map_congr_left fun q _ => by rw [Nat.div_one]; rfl
  rw [this, List.map_id]
theorem div_mul {b : Pl} {g m : Nat} (hm : 1 ≤ m) (h1 : m ∣ g) (h2 : g ∣ gcdL b) (hg : 1 ≤ g) : mulL (divL b g) (g / m) = divL b m := by
  unfold mulL divL
  rw [List.map_map]
  refine List.map_congr_left fun q hq => ?_
  obtain ⟨k, rfl⟩ := h1
  obtain ⟨j, hj⟩ := gcdL_dvd.mp h2 q hq
  have hk : 1 ≤ k := by
    refine Nat.pos_of_ne_zero fun e => ?_
    rw [e, Nat.mul_zero] at hg
    omega
  show (q.1 / (m * k) * (m * k / m), q.2) = (q.1 / m, q.2)
  rw [hj, Nat.mul_div_cancel_left j (by omega), Nat.mul_div_cancel_left k (by omega), Nat.mul_assoc, Nat.mul_div_cancel_left (k * j) (by omega), Nat.mul_comm j k]
theorem filter_pos {b : Pl} (pb : Pos b) : b.filter (fun q => decide (0 < q.1)) = b := List.filter_eq_self.mpr fun q hq => decide_eq_true (pb q hq)
/-- one more name, found nowhere else at the top -/
theorem gcd_extra {b : Pl} {n : Nat} {z : List Nat} (g : GoodL n b) (hz : okLab z) (h : ∀ q ∈ b, q.2 ≠ .name z) : GoodL n (b ++ [(1, .name z)]) ∧ gcdL (plainOf (b ++ [(1, .name z)])) = 1 := by
  have g2 : GoodL n (b ++ [(1, .name z)]) := goodL_append.mpr ⟨g, goodL_one.mpr ⟨Nat.le_refl _, (good_name _ _).mpr hz⟩⟩
  refine ⟨g2, Nat.dvd_one.mp ?_⟩
  obtain ⟨s1, s2, s3⟩ := plain_spec g2.pos
  have e : mu (.name z) (plainOf (b ++ [(1, .name z)])) = 1 := by
    rw [s3, preL_append, mu_append, preL, preL, mp_name, mu_cons, if_pos rfl]
    have e0 : mu (.name z) (preL b) = 0 := mu_zero fun q hq e => by
      rw [preL_map] at hq
      obtain ⟨x, hx, rfl⟩ := List.mem_map.mp hq
      have e' : (mp x.2).2 = .name z := e
      refine h x hx ?_
      cases hx2 : x.2 with
      | name y => rw [hx2, mp_name] at e'; exact e'
      | got d => rw [hx2, mp_got] at e'; cases e'
      | box w d b =>
        rw [hx2] at e'
        cases w
        · rw [mp_letter] at e'; cases e'
        · rw [mp_wait] at e'
          unfold folded at e'
          split at e' <;> cases e'
    rw [e0]
    rfl
  obtain ⟨c, hc⟩ := mu_mem s2 (t := .name z) (by omega)
  have ec : c = 1 := by rw [← e, asc_mu s1 hc]
  have := gcdL_dvd.mp (Nat.dvd_refl (gcdL (plainOf (b ++ [(1, .name z)])))) _ hc
  rw [ec] at this
  exact this
/-! ### Euclid's turns, told as the law does them -/
structure Eu (i f c : Nat) : Prop where
  lt : i = 0 ∨ c < f
  fb : i = 0 ∨ f < 2 ^ (64 - (i - 1) / 2)
  cb : c < 2 ^ (64 - i / 2)
theorem Eu.next {i f c : Nat} (h : Eu i f c) (hc : c ≠ 0) : Eu (i + 1) c (f % c) := by
  have hm : f % c < c := Nat.mod_lt _ (by omega)
  refine ⟨.inr hm, .inr (by have := h.cb; simpa using this), ?_⟩
  rcases h.fb with e | hf
  · subst e
    have := h.cb
    have e1 : (0 + 1) / 2 = 0 := by decide
    rw [e1]
    have e2 : (0 : Nat) / 2 = 0 := by decide
    rw [e2] at this
    omega
  · rcases h.lt with e | hl
    · subst e
      have := h.cb
      have e1 : (0 + 1) / 2 = 0 := by decide
      rw [e1]
      have e2 : (0 : Nat) / 2 = 0 := by decide
      rw [e2] at this
      omega
    · by_cases hi : i = 0
      · subst hi
        have := h.cb
        have e1 : (0 + 1) / 2 = 0 := by decide
        rw [e1]
        have e2 : (0 : Nat) / 2 = 0 := by decide
        rw [e2] at this
        omega
      · have h2 : 2 * (f % c) < f := by
          have h3 := Nat.div_add_mod f c
          have h4 : 1 ≤ f / c := Nat.div_pos (Nat.le_of_lt hl) (by omega)
          have h5 : c * 1 ≤ c * (f / c) := Nat.mul_le_mul_left c h4
          omega
        have e1 : (i + 1) / 2 = (i - 1) / 2 + 1 := by omega
        rw [e1]
        by_cases hk : (i - 1) / 2 < 64
        · have e2 : 64 - (i - 1) / 2 = (64 - ((i - 1) / 2 + 1)) + 1 := by omega
          rw [e2, Nat.pow_succ] at hf
          omega
        · have e2 : 64 - (i - 1) / 2 = 0 := by omega
          rw [e2] at hf
          have e3 : 64 - ((i - 1) / 2 + 1) = 0 := by omega
          rw [e3]
          omega
theorem Eu.end {f c : Nat} (h : Eu 400 f c) : c = 0 := by
  have := h.cb
  have e : 64 - 400 / 2 = 0 := by decide
  rw [e] at this
  omega
end G6

set_option autoImplicit false
set_option Elab.async false
set_option linter.all false
set_option maxRecDepth 100000
set_option maxHeartbeats 4000000
/-! Plans as values: what stands for a plan in the abstract heap. -/
namespace G6
open PySem PySem.Spec PyProof.Rows L2
/-- a label as a text -/
def S (x : List Nat) : Str := ⟨x.toArray⟩
theorem S_inj {x y : List Nat} (h : S x = S y) : x = y := by
  have e : x.toArray = y.toArray := congrArg Str.cps h
  have e2 := congrArg Array.toList e
  exact e2
def kindS (w : Bool) : Str := if w = true then "wait" else "letter"
mutual
def partD : Pt → PyData
  | .name x => .tuple [.str "name", .str (S x)]
  | .got d => .tuple [.str "got", .int (d : Int)]
  | .box w d b => .tuple [.str (kindS w), .str (S d), .tuple (itemsD b)]
def itemsD : List (Nat × Pt) → List PyData
  | [] => []
  | (c, p) :: r => .tuple [.int (c : Int), partD p] :: itemsD r
end
def itemD (q : Nat × Pt) : PyData := .tuple [.int (q.1 : Int), partD q.2]
def planD (b : Pl) : PyData := .tuple (itemsD b)
theorem itemsD_map : ∀ b : Pl, itemsD b = b.map itemD
  | [] => by rw [itemsD, List.map_nil]
  | (c, p) :: r => by rw [itemsD, List.map_cons, itemsD_map r]; rfl
theorem partD_name (x : List Nat) : partD (.name x) = .tuple [.str "name", .str (S x)] := by rw [partD]
theorem partD_got (d : Nat) : partD (.got d) = .tuple [.str "got", .int (d : Int)] := by rw [partD]
theorem partD_box (w : Bool) (d : List Nat) (b : Pl) : partD (.box w d b) = .tuple [.str (kindS w), .str (S d), planD b] := by rw [partD]; rfl
/-! ### values that stand for data of tuples, ints, texts -/
mutual
inductive Tp (K : PySem.W.Frag) (H : Hp) : V → PyData → Prop
  | non : Tp K H .non .none
  | bl (b : Bool) : Tp K H (.bl b) (.bool b)
  | int (i : Int) : Tp K H (.int i) (.int i)
  | str (x : Str) : Tp K H (.str x) (.str x)
  | tup {a : Addr} {xs : List V} {ds : List PyData} : SqT K H a xs → TpAll K H xs ds → Tp K H (.ref a) (.tuple ds)
inductive TpAll (K : PySem.W.Frag) (H : Hp) : List V → List PyData → Prop
  | nil : TpAll K H [] []
  | cons {v : V} {vs : List V} {d : PyData} {ds : List PyData} : Tp K H v d → TpAll K H vs ds → TpAll K H (v :: vs) (d :: ds)
end
section
variable {K : PySem.W.Frag} {H H' : Hp}
mutual
theorem Tp.dp : ∀ (d : PyData) (v : V), Tp K H v d → Dp K H v d
  | .none, _, h => by cases h; exact .non
  | .bool b, _, h => by cases h; exact .bl b
  | .int i, _, h => by cases h; exact .int i
  | .str x, _, h => by cases h; exact .str x
  | .list _, _, h => by cases h
  | .dict _, _, h => by cases h
  | .tuple ds, _, h => by
    cases h with
    | tup h1 h2 => exact .tup h1 (TpAll.dp ds _ h2)
theorem TpAll.dp : ∀ (ds : List PyData) (vs : List V), TpAll K H vs ds → DpAll K H vs ds
  | [], _, h => by cases h; exact .nil
  | d :: ds, _, h => by
    cases h with
    | cons h1 h2 => exact .cons (Tp.dp d _ h1) (TpAll.dp ds _ h2)
end
mutual
/-- carried from heap to heap, where the tuples stay -/
theorem Tp.ext (k : ∀ a xs, SqT K H a xs → SqT K H' a xs) : ∀ (d : PyData) (v : V), Tp K H v d → Tp K H' v d
  | .none, _, h => by cases h; exact .non
  | .bool b, _, h => by cases h; exact .bl b
  | .int i, _, h => by cases h; exact .int i
  | .str x, _, h => by cases h; exact .str x
  | .list _, _, h => by cases h
  | .dict _, _, h => by cases h
  | .tuple ds, _, h => by
    cases h with
    | tup h1 h2 => exact .tup (k _ _ h1) (TpAll.ext k ds _ h2)
theorem TpAll.ext (k : ∀ a xs, SqT K H a xs → SqT K H' a xs) : ∀ (ds : List PyData) (vs : List V), TpAll K H vs ds → TpAll K H' vs ds
  | [], _, h => by cases h; exact .nil
  | d :: ds, _, h => by
    cases h with
    | cons h1 h2 => exact .cons (Tp.ext k d _ h1) (TpAll.ext k ds _ h2)
end
theorem TpAll.length : ∀ {vs : List V} {ds : List PyData}, TpAll K H vs ds → vs.length = ds.length
  | [], [], _ => rfl
  | [], _ :: _, h => by cases h
  | _ :: _, [], h => by cases h
  | _ :: vs, _ :: ds, h => by
    cases h with
    | cons _ h2 => rw [List.length_cons, List.length_cons, TpAll.length h2]
theorem TpAll.get : ∀ {vs : List V} {ds : List PyData}, TpAll K H vs ds → ∀ {i : Nat} {d : PyData}, ds[i]? = some d → ∃ v, vs[i]? = some v ∧ Tp K H v d
  | [], [], _, i, d, e => by simp at e
  | [], _ :: _, h, _, _, _ => by cases h
  | _ :: _, [], h, _, _, _ => by cases h
  | v :: vs, x :: ds, h, i, d, e => by
    cases h with
    | cons h1 h2 =>
      cases i with
      | zero =>
        have e' : x = d := Option.some.inj e
        rw [← e']
        exact ⟨v, rfl, h1⟩
      | succ i => exact TpAll.get h2 (i := i) (by simpa using e)
theorem TpAll.append : ∀ {vs ws : List V} {ds es : List PyData}, TpAll K H vs ds → TpAll K H ws es → TpAll K H (vs ++ ws) (ds ++ es)
  | [], _, [], _, _, h => h
  | [], _, _ :: _, _, h, _ => by cases h
  | _ :: _, _, [], _, h, _ => by cases h
  | _ :: _, _, _ :: _, _, h, h' => by
    cases h with
    | cons h1 h2 => exact .cons h1 (TpAll.append h2 h')
theorem TpAll.take : ∀ {vs : List V} {ds : List PyData} (n : Nat), TpAll K H vs ds → TpAll K H (vs.take n) (ds.take n)
  | _, _, 0, _ => .nil
  | [], [], _ + 1, h => h
  | [], _ :: _, _ + 1, h => by cases h
  | _ :: _, [], _ + 1, h => by cases h
  | _ :: _, _ :: _, n + 1, h => by
    cases h with
    | cons h1 h2 => exact .cons h1 (TpAll.take n h2)
theorem TpAll.drop : ∀ {vs : List V} {ds : List PyData} (n : Nat), TpAll K H vs ds → TpAll K H (vs.drop n) (ds.drop n)
  | _, _, 0, h => h
  | [], [], _ + 1, h => h
  | [], _ :: _, _ + 1, h => by cases h
  | _ :: _, [], _ + 1, h => by cases h
  | _ :: _, _ :: _, n + 1, h => by
    cases h with
    | cons h1 h2 => exact TpAll.drop n h2
theorem Tp.tuple_inv {v : V} {ds : List PyData} (h : Tp K H v (.tuple ds)) : ∃ a xs, v = .ref a ∧ SqT K H a xs ∧ TpAll K H xs ds := by
  cases h with
  | tup h1 h2 => exact ⟨_, _, rfl, h1, h2⟩
theorem Tp.int_inv {v : V} {i : Int} (h : Tp K H v (.int i)) : v = .int i := by cases h; rfl
theorem Tp.str_inv {v : V} {x : Str} (h : Tp K H v (.str x)) : v = .str x := by cases h; rfl
theorem TpAll.cons_inv {vs : List V} {d : PyData} {ds : List PyData} (h : TpAll K H vs (d :: ds)) : ∃ v ws, vs = v :: ws ∧ Tp K H v d ∧ TpAll K H ws ds := by
  cases h with
  | cons h1 h2 => exact ⟨_, _, rfl, h1, h2⟩
theorem TpAll.nil_inv {vs : List V} (h : TpAll K H vs []) : vs = [] := by cases h; rfl
/-- v stands for the part p, the plan b, the item q -/
abbrev PartV (K : PySem.W.Frag) (H : Hp) (v : V) (p : Pt) : Prop := Tp K H v (partD p)
abbrev PlanV (K : PySem.W.Frag) (H : Hp) (v : V) (b : Pl) : Prop := Tp K H v (planD b)
abbrev ItemV (K : PySem.W.Frag) (H : Hp) (v : V) (q : Nat × Pt) : Prop := Tp K H v (itemD q)
abbrev ItemsV (K : PySem.W.Frag) (H : Hp) (vs : List V) (b : Pl) : Prop := TpAll K H vs (b.map itemD)
theorem PlanV.inv {v : V} {b : Pl} (h : PlanV K H v b) : ∃ a xs, v = .ref a ∧ SqT K H a xs ∧ ItemsV K H xs b := by
  unfold PlanV planD at h
  rw [itemsD_map] at h
  exact h.tuple_inv
theorem PlanV.mk {a : Addr} {xs : List V} {b : Pl} (h : SqT K H a xs) (hi : ItemsV K H xs b) : PlanV K H (.ref a) b := by
  unfold PlanV planD
  rw [itemsD_map]
  exact .tup h hi
theorem ItemV.inv {v : V} {q : Nat × Pt} (h : ItemV K H v q) : ∃ a u, v = .ref a ∧ SqT K H a [.int (q.1 : Int), u] ∧ PartV K H u q.2 := by
  obtain ⟨a, xs, rfl, h1, h2⟩ := Tp.tuple_inv h
  obtain ⟨v1, ws, rfl, h3, h4⟩ := h2.cons_inv
  obtain ⟨u, ws, rfl, h5, h6⟩ := h4.cons_inv
  cases h6.nil_inv
  cases h3.int_inv
  exact ⟨a, u, rfl, h1, h5⟩
theorem ItemV.mk {a : Addr} {u : V} {c : Nat} {p : Pt} (h : SqT K H a [.int (c : Int), u]) (hp : PartV K H u p) : ItemV K H (.ref a) (c, p) := .tup h (.cons (.int _) (.cons hp .nil))
theorem PartV.name_inv {v : V} {x : List Nat} (h : PartV K H v (.name x)) : ∃ a, v = .ref a ∧ SqT K H a [.str "name", .str (S x)] := by
  unfold PartV at h
  rw [partD_name] at h
  obtain ⟨a, xs, rfl, h1, h2⟩ := Tp.tuple_inv h
  obtain ⟨v1, ws, rfl, h3, h4⟩ := h2.cons_inv
  obtain ⟨u, ws, rfl, h5, h6⟩ := h4.cons_inv
  cases h6.nil_inv
  cases h3.str_inv
  cases h5.str_inv
  exact ⟨a, rfl, h1⟩
theorem PartV.name_mk {a : Addr} {x : List Nat} (h : SqT K H a [.str "name", .str (S x)]) : PartV K H (.ref a) (.name x) := by
  unfold PartV
  rw [partD_name]
  exact .tup h (.cons (.str _) (.cons (.str _) .nil))
theorem PartV.got_inv {v : V} {d : Nat} (h : PartV K H v (.got d)) : ∃ a, v = .ref a ∧ SqT K H a [.str "got", .int (d : Int)] := by
  unfold PartV at h
  rw [partD_got] at h
  obtain ⟨a, xs, rfl, h1, h2⟩ := Tp.tuple_inv h
  obtain ⟨v1, ws, rfl, h3, h4⟩ := h2.cons_inv
  obtain ⟨u, ws, rfl, h5, h6⟩ := h4.cons_inv
  cases h6.nil_inv
  cases h3.str_inv
  cases h5.int_inv
  exact ⟨a, rfl, h1⟩
theorem PartV.got_mk {a : Addr} {d : Nat} (h : SqT K H a [.str "got", .int (d : Int)]) : PartV K H (.ref a) (.got d) := by
  unfold PartV
  rw [partD_got]
  exact .tup h (.cons (.str _) (.cons (.int _) .nil))
theorem PartV.box_inv {v : V} {w : Bool} {d : List Nat} {b : Pl} (h : PartV K H v (.box w d b)) : ∃ a u, v = .ref a ∧ SqT K H a [.str (kindS w), .str (S d), u] ∧ PlanV K H u b := by
  unfold PartV at h
  rw [partD_box] at h
  obtain ⟨a, xs, rfl, h1, h2⟩ := Tp.tuple_inv h
  obtain ⟨v1, ws, rfl, h3, h4⟩ := h2.cons_inv
  obtain ⟨v2, ws, rfl, h5, h6⟩ := h4.cons_inv
  obtain ⟨u, ws, rfl, h7, h8⟩ := h6.cons_inv
  cases h8.nil_inv
  cases h3.str_inv
  cases h5.str_inv
  exact ⟨a, u, rfl, h1, h7⟩
theorem PartV.box_mk {a : Addr} {u : V} {w : Bool} {d : List Nat} {b : Pl} (h : SqT K H a [.str (kindS w), .str (S d), u]) (hb : PlanV K H u b) : PartV K H (.ref a) (.box w d b) := by
  unfold PartV
  rw [partD_box]
  exact .tup h (.cons (.str _) (.cons (.str _) (.cons hb .nil)))
theorem ItemsV.len {vs : List V} {b : Pl} (h : ItemsV K H vs b) : vs.length = b.length := by rw [TpAll.length h, List.length_map]
theorem ItemsV.get {vs : List V} {b : Pl} (h : ItemsV K H vs b) {i : Nat} {q : Nat × Pt} (e : b[i]? = some q) : ∃ v, vs[i]? = some v ∧ ItemV K H v q :=
  TpAll.get h (by rw [List.getElem?_map, e]; rfl)
theorem ItemsV.snoc {vs : List V} {b : Pl} {v : V} {q : Nat × Pt} (h : ItemsV K H vs b) (hv : ItemV K H v q) : ItemsV K H (vs ++ [v]) (b ++ [q]) := by
  unfold ItemsV
  rw [List.map_append]
  exact TpAll.append h (.cons hv .nil)
/-- any part is a tuple at an address -/
theorem PartV.ref {v : V} {p : Pt} (h : PartV K H v p) : ∃ a, v = .ref a := by
  cases p with
  | name x => obtain ⟨a, e, _⟩ := h.name_inv; exact ⟨a, e⟩
  | got d => obtain ⟨a, e, _⟩ := h.got_inv; exact ⟨a, e⟩
  | box w d b => obtain ⟨a, u, e, _⟩ := h.box_inv; exact ⟨a, e⟩
end
/-! ### equal data are equal plans -/
theorem eqvAll_nil : PyData.eqvAll [] [] = true := by simp [PyData.eqvAll]
theorem eqv_tuple (xs ys : List PyData) : PyData.eqv (.tuple xs) (.tuple ys) = PyData.eqvAll xs ys := by simp [PyData.eqv]
theorem eqv_str (x y : Str) : PyData.eqv (.str x) (.str y) = decide (x = y) := by
  simp only [PyData.eqv]
  by_cases h : x = y
  · subst h; simp
  · rw [decide_eq_false h]; simpa using h
theorem eqv_int (x y : Int) : PyData.eqv (.int x) (.int y) = decide (x = y) := by
  simp only [PyData.eqv]
  by_cases h : x = y
  · subst h; simp
  · rw [decide_eq_false h]; simpa using h
theorem eqvAll_cons (x y : PyData) (xs ys : List PyData) : PyData.eqvAll (x :: xs) (y :: ys) = (PyData.eqv x y && PyData.eqvAll xs ys) := by rw [PyData.eqvAll]
theorem eqv_nn : ("name" : Str) ≠ ("got" : Str) := by decide
theorem S_eq (x y : List Nat) : decide (S x = S y) = decide (x = y) := by
  by_cases h : x = y
  · subst h; simp
  · rw [decide_eq_false h, decide_eq_false fun e => h (S_inj e)]
theorem cast_eq (x y : Nat) : decide ((x : Int) = (y : Int)) = decide (x = y) := by
  by_cases h : x = y
  · subst h; simp
  · rw [decide_eq_false h, decide_eq_false fun e => h (by omega)]
theorem items_eqv_of : ∀ (b b' : Pl), (∀ q ∈ b, ∀ t, PyData.eqv (partD q.2) (partD t) = decide (q.2 = t)) → PyData.eqvAll (b.map itemD) (b'.map itemD) = decide (b = b')
  | [], [], _ => by simp [eqvAll_nil]
  | [], _ :: _, _ => by simp [PyData.eqvAll]
  | _ :: _, [], _ => by simp [PyData.eqvAll]
  | (c, p) :: r, (d, q) :: s, h => by
    have h1 : PyData.eqv (partD p) (partD q) = decide (p = q) := h (c, p) (List.mem_cons_self ..) q
    rw [List.map_cons, List.map_cons, eqvAll_cons, items_eqv_of r s fun q hq => h q (List.mem_cons_of_mem _ hq)]
    unfold itemD
    rw [eqv_tuple, eqvAll_cons, eqvAll_cons, eqvAll_nil, Bool.and_true]
    dsimp only
    rw [eqv_int, h1, cast_eq]
    by_cases e1 : c = d <;> by_cases e2 : p = q <;> by_cases e3 : r = s <;> simp [e1, e2, e3]
theorem kind_eq (w w' : Bool) : decide (kindS w = kindS w') = decide (w = w') := by cases w <;> cases w' <;> decide
theorem part_eqv : ∀ (p q : Pt), PyData.eqv (partD p) (partD q) = decide (p = q) := by
  have n1 : ∀ w, ("name" : Str) ≠ kindS w := fun w => by cases w <;> decide
  have n2 : ∀ w, ("got" : Str) ≠ kindS w := fun w => by cases w <;> decide
  refine Pt.ind (fun x q => ?_) (fun d q => ?_) (fun w d b ih q => ?_)
  · cases q with
    | name y =>
      rw [partD_name, partD_name, eqv_tuple, eqvAll_cons, eqvAll_cons, eqvAll_nil, eqv_str, eqv_str, S_eq]
      by_cases e : x = y <;> simp [e]
    | got e =>
      rw [partD_name, partD_got, eqv_tuple, eqvAll_cons, eqv_str, decide_eq_false eqv_nn]
      simp
    | box w e b =>
      rw [partD_name, partD_box, eqv_tuple, eqvAll_cons, eqv_str, decide_eq_false (n1 w)]
      simp
  · cases q with
    | name y =>
      rw [partD_name, partD_got, eqv_tuple, eqvAll_cons, eqv_str, decide_eq_false eqv_nn.symm]
      simp
    | got e =>
      rw [partD_got, partD_got, eqv_tuple, eqvAll_cons, eqvAll_cons, eqvAll_nil, eqv_str, eqv_int, cast_eq]
      by_cases h : d = e <;> simp [h]
    | box w e b =>
      rw [partD_got, partD_box, eqv_tuple, eqvAll_cons, eqv_str, decide_eq_false (n2 w)]
      simp
  · cases q with
    | name y =>
      rw [partD_name, partD_box, eqv_tuple, eqvAll_cons, eqv_str, decide_eq_false (n1 w).symm]
      simp
    | got e =>
      rw [partD_got, partD_box, eqv_tuple, eqvAll_cons, eqv_str, decide_eq_false (n2 w).symm]
      simp
    | box w' e b' =>
      rw [partD_box, partD_box, eqv_tuple, eqvAll_cons, eqvAll_cons, eqvAll_cons, eqvAll_nil, eqv_str, eqv_str, S_eq, kind_eq]
      unfold planD
      rw [eqv_tuple, itemsD_map, itemsD_map, items_eqv_of b b' fun q hq t => ih q hq t]
      by_cases e1 : w = w' <;> by_cases e2 : d = e <;> by_cases e3 : b = b' <;> simp [e1, e2, e3]
theorem plan_eqv (b b' : Pl) : PyData.eqv (planD b) (planD b') = decide (b = b') := by
  unfold planD
  rw [eqv_tuple, itemsD_map, itemsD_map, items_eqv_of b b' fun q _ t => part_eqv q.2 t]
/-! ### what the library asks of them -/
theorem depthAll_cons (x : PyData) (xs : List PyData) : PyData.depthAll (x :: xs) = max (PyData.depth x) (PyData.depthAll xs) := by rw [PyData.depthAll]
theorem depth_tuple (xs : List PyData) : PyData.depth (.tuple xs) = PyData.depthAll xs + 1 := by rw [PyData.depth]
theorem depthAll_le {xs : List PyData} {k : Nat} (h : ∀ d ∈ xs, PyData.depth d ≤ k) : PyData.depthAll xs ≤ k := by
  induction xs with
  | nil => rw [PyData.depthAll]; exact Nat.zero_le _
  | cons x xs ih => rw [depthAll_cons]; exact Nat.max_le.mpr ⟨h x (List.mem_cons_self ..), ih fun d hd => h d (List.mem_cons_of_mem _ hd)⟩
theorem plan_depth_of {b : Pl} {k : Nat} (h : ∀ q ∈ b, PyData.depth (partD q.2) ≤ k) : PyData.depth (planD b) ≤ k + 2 := by
  unfold planD
  rw [depth_tuple, itemsD_map]
  refine Nat.succ_le_succ (depthAll_le fun d hd => ?_)
  obtain ⟨q, hq, rfl⟩ := List.mem_map.mp hd
  unfold itemD
  rw [depth_tuple, depthAll_cons, depthAll_cons]
  have h1 := h q hq
  simp only [PyData.depth, PyData.depthAll]
  omega
theorem part_depth : ∀ p : Pt, PyData.depth (partD p) ≤ 3 * dp p + 1 := by
  refine Pt.ind (fun x => ?_) (fun d => ?_) (fun w d b ih => ?_)
  · rw [partD_name]
    simp [PyData.depth, PyData.depthAll]
  · rw [partD_got]
    simp [PyData.depth, PyData.depthAll]
  · rw [partD_box, dp_box, depth_tuple, depthAll_cons, depthAll_cons, depthAll_cons]
    have h1 := plan_depth_of (b := b) (k := 3 * dpL b + 1) fun q hq => Nat.le_trans (ih q hq) (by have := dp_mem hq; omega)
    simp only [PyData.depth, PyData.depthAll]
    omega
theorem plan_depth (b : Pl) : PyData.depth (planD b) ≤ 3 * dpL b + 3 := plan_depth_of (k := 3 * dpL b + 1) fun q hq => Nat.le_trans (part_depth q.2) (by have := dp_mem hq; omega)
theorem strOk_S {x : List Nat} (h : okLab x) : PyData.canLay0 (.str (S x)) = true := by
  obtain ⟨c, rfl, h1, h2⟩ := h
  simp only [PyData.canLay0]
  unfold PyData.strOk S
  simp
  omega
theorem strOk_kind (w : Bool) : PyData.canLay0 (.str (kindS w)) = true := by cases w <;> decide +kernel
theorem canLay_cons (x : PyData) (xs : List PyData) : PyData.canLayAll0 (x :: xs) = (PyData.canLay0 x && PyData.canLayAll0 xs) := by rw [PyData.canLayAll0]
theorem canLay_tuple (xs : List PyData) : PyData.canLay0 (.tuple xs) = PyData.canLayAll0 xs := by simp [PyData.canLay0]
theorem canLay_int (i : Int) : PyData.canLay0 (.int i) = true := by simp [PyData.canLay0]
theorem canLay_nil : PyData.canLayAll0 [] = true := by rw [PyData.canLayAll0]
theorem items_lay_of : ∀ b : Pl, (∀ q ∈ b, PyData.canLay0 (partD q.2) = true) → PyData.canLayAll0 (b.map itemD) = true
  | [], _ => canLay_nil
  | (c, p) :: r, h => by
    have h1 : PyData.canLay0 (partD p) = true := h (c, p) (List.mem_cons_self ..)
    rw [List.map_cons, canLay_cons, items_lay_of r fun q hq => h q (List.mem_cons_of_mem _ hq)]
    unfold itemD
    rw [canLay_tuple, canLay_cons, canLay_cons, canLay_nil, canLay_int, h1]
    rfl
theorem part_lay : ∀ (p : Pt) (n : Nat), Good n p → PyData.canLay0 (partD p) = true := by
  refine Pt.ind (fun x n g => ?_) (fun d n g => ?_) (fun w d b ih n g => ?_)
  · rw [good_name] at g
    rw [partD_name, canLay_tuple, canLay_cons, canLay_cons, canLay_nil, strOk_S g]
    decide +kernel
  · rw [partD_got, canLay_tuple, canLay_cons, canLay_cons, canLay_nil, canLay_int]
    decide +kernel
  · rw [good_box] at g
    rw [partD_box, canLay_tuple, canLay_cons, canLay_cons, canLay_cons, canLay_nil, strOk_kind, strOk_S g.1]
    unfold planD
    rw [canLay_tuple, itemsD_map, items_lay_of b fun q hq => ih q hq _ ((goodL_iff _ _).mp g.2 q hq).2]
    rfl
theorem plan_lay {n : Nat} {b : Pl} (g : GoodL n b) : PyData.canLay0 (planD b) = true := by
  unfold planD
  rw [canLay_tuple, itemsD_map, items_lay_of b fun q hq => part_lay q.2 n ((goodL_iff _ _).mp g q hq).2]
theorem plan_shaped {n : Nat} {b : Pl} (g : GoodL n b) (h : dpL b ≤ 20) : SeqAt.shaped (planD b) = true := by
  unfold SeqAt.shaped
  rw [plan_lay g, Bool.true_and]
  have := plan_depth b
  exact decide_eq_true (by omega)
theorem part_shaped {n : Nat} {p : Pt} (g : Good n p) (h : dp p ≤ 20) : SeqAt.shaped (partD p) = true := by
  unfold SeqAt.shaped
  rw [part_lay p n g, Bool.true_and]
  have := part_depth p
  exact decide_eq_true (by omega)
/-! ### heaps that grow: tables and the object at t aside -/
structure Gr (T : List NdefX.NTab) (t : Option Addr) (H H' : Hp) : Prop where
  keep : ∀ b o, H b = some o → t ≠ some b → (∀ ps, o ≠ .tbl ps) → H' b = some o
  tabs : NdefX.TabsN T H → NdefX.TabsN T H'
  free : ∀ b, H' b = none → H b = none
section
variable {T : List NdefX.NTab} {t : Option Addr} {K : PySem.W.Frag} {H H' H1 H2 : Hp}
theorem Gr.refl (H : Hp) : Gr T t H H := ⟨fun _ _ h _ _ => h, id, fun _ h => h⟩
theorem Gr.trans (a : Gr T t H H1) (b : Gr T t H1 H2) : Gr T t H H2 := ⟨fun c o h n n' => b.keep c o (a.keep c o h n n') n n', fun h => b.tabs (a.tabs h), fun c h => a.free c (b.free c h)⟩
theorem Gr.of_same (h : Same H H') : Gr T t H H' := ⟨fun b o e _ _ => h b o e, fun z => z.ext h, fun b e => h.free e⟩
theorem Gr.weak (h : Gr T none H H') : Gr T t H H' := ⟨fun b o e _ n => h.keep b o e (fun z => nomatch z) n, h.tabs, h.free⟩
theorem gr_new {p : Addr} {o : HO} (h : H p = none) : Gr T t H (upd H p o) := .of_same fun b u e => by
  rw [upd_ne (ne_of_none e h)]
  exact e
/-- an object that the start does not know is changed -/
theorem Gr.mut {p : Addr} {o o' : HO} (g : Gr T t H H') (h : H p = none) (e : H' p = some o') (ho : ∀ ps, o' ≠ .tbl ps) (hc : ∀ c q, o' ≠ LamX.CodeO c q) : Gr T t H (upd H' p o) := by
  refine ⟨fun b u q n n' => ?_, fun z => ?_, fun b z => ?_⟩
  · rw [upd_ne (ne_of_none q h)]
    exact g.keep b u q n n'
  · intro x hx
    obtain ⟨ps, h1, h2, h3⟩ := g.tabs z x hx
    refine ⟨ps, ?_, h2, fun pos cv hcv => ?_⟩
    · rw [upd_ne fun e2 => ?_]
      · exact h1
      · rw [e2, e] at h1
        exact ho ps (Option.some.inj h1)
    · obtain ⟨c, e1, e2⟩ := h3 pos cv hcv
      refine ⟨c, e1, ?_⟩
      rw [upd_ne fun e3 => ?_]
      · exact e2
      · rw [e3, e] at e2
        exact hc _ _ (Option.some.inj e2)
  · by_cases hb : b = p
    · rw [hb]; exact h
    · rw [upd_ne hb] at z
      exact g.free b z
theorem Gr.sqt (g : Gr T t H H') (ht : ∀ b, t = some b → ∃ l, H b = some (.lst l)) {a : Addr} {xs : List V} (h : SqT K H a xs) : SqT K H' a xs := by
  have key : ∀ o : HO, H a = some o → (∀ l, o ≠ .lst l) → (∀ ps, o ≠ .tbl ps) → H' a = some o := fun o e n n' => g.keep a o e (fun z => by
    obtain ⟨l, hl⟩ := ht a z
    rw [hl] at e
    exact n l (Option.some.inj e).symm) n'
  rcases h with (h | ⟨o, h⟩) | h
  · exact .inl (.inl (key _ h (fun l z => by cases z) (fun l z => by cases z)))
  · exact .inl (.inr ⟨o, key _ h (fun l z => by cases z) (fun l z => by cases z)⟩)
  · exact .inr h
theorem Gr.sqt0 (g : Gr T none H H') {a : Addr} {xs : List V} (h : SqT K H a xs) : SqT K H' a xs := g.sqt (fun _ z => nomatch z) h
theorem Gr.tp (g : Gr T none H H') {v : V} {d : PyData} (h : Tp K H v d) : Tp K H' v d := Tp.ext (fun _ _ z => g.sqt0 z) d v h
theorem Gr.tpAll (g : Gr T none H H') {vs : List V} {ds : List PyData} (h : TpAll K H vs ds) : TpAll K H' vs ds := TpAll.ext (fun _ _ z => g.sqt0 z) ds vs h
theorem Gr.tpT (g : Gr T t H H') (ht : ∀ b, t = some b → ∃ l, H b = some (.lst l)) {v : V} {d : PyData} (h : Tp K H v d) : Tp K H' v d := Tp.ext (fun _ _ z => g.sqt ht z) d v h
theorem Gr.tpAllT (g : Gr T t H H') (ht : ∀ b, t = some b → ∃ l, H b = some (.lst l)) {vs : List V} {ds : List PyData} (h : TpAll K H vs ds) : TpAll K H' vs ds := TpAll.ext (fun _ _ z => g.sqt ht z) ds vs h
theorem Gr.lst (g : Gr T none H H') {a : Addr} {xs : List V} (h : H a = some (.lst xs)) : H' a = some (.lst xs) := g.keep a _ h (fun z => nomatch z) fun _ z => by cases z
end
end G6

set_option autoImplicit false
set_option Elab.async false
set_option linter.all false
set_option maxRecDepth 100000
set_option maxHeartbeats 4000000
/-! The checks. -/
namespace G6
open PySem PySem.Spec PyProof.Rows L2
/-- built-in names that the text leaves as they are; the module's constants -/
structure Txt (mg : Str → Option Value) : Prop where
  isinstance : mg "isinstance" = none
  len : mg "len" = none
  all : mg "all" = none
  any : mg "any" = none
  sum : mg "sum" = none
  sorted : mg "sorted" = none
  list : mg "list" = none
  tuple : mg "tuple" = none
  enumerate : mg "enumerate" = none
  repr : mg "repr" = none
  int : mg "int" = none
  range : mg "range" = none
  str : mg "str" = none
  bool : mg "bool" = none
  mostWord : ∃ t, mg "MOST_WORD" = some (.int 8 t)
  mostCopies : ∃ t, mg "MOST_COPIES" = some (.int (10 ^ 30) t)
  small : ∃ t, mg "SMALL" = some (.str "abcdefghijklmnopqrstuvwxyz" t)
/-- a def of the text, under its name -/
structure DefN (K : PySem.W.Frag) (mg : Str → Option Value) (x : Str) (st : Stmt) (ps : List Str) : Prop where
  ex : ∃ (f : Addr) (fd : FuncData), C8.Def K mg x st f fd ∧ Binds K fd ps []
section
variable {P : Program} {w : World} {K : PySem.W.Frag} {mg : Str → Option Value} {base : Heap}
theorem mkCal {x : Str} {st : Stmt} {N ps : List Str} {k : Nat} {sp : Sp} (D : DefN K mg x st ps) (S : FnScope N ps (C8.fnScope st)) (len : ∀ vs H Q E, sp vs H Q E → vs.length = ps.length)
    (hbody : ∀ (f : Addr) (cdv : Value) (A : Around) (outer : List Env) (s : Shared) (H : Hp) (vs : List V) (Q : VK) (E : XK), Room k (A.deeper (envOfC x (C8.fnScope st) s.heap.objs.size f cdv)) → sp vs H Q E →
      ∃ t, PSs (cxOf C8.CX0 P w K mg base N x (C8.fnScope st) f cdv A outer s H E).nox (C8.fnBody st) t ∧ t { nx := fun _ H' => Q .non H', rt := Q } (start N vs) H) : C8.Cal P w K mg base (k + 1) x sp [] := by
  obtain ⟨f, fd, F, b⟩ := D.ex
  exact C8.cal0 F b .nil S len fun cdv A outer s H vs Q E hr h => hbody f cdv A outer s H vs Q E hr h
theorem calUp {x : Str} {sp : Sp} {j k : Nat} (c : C8.Cal P w K mg base j x sp []) (h : j ≤ k) : C8.Cal P w K mg base k x sp [] := by
  obtain ⟨f, fd, ps, ds, F, r⟩ := c.ex
  exact ⟨f, fd, ps, ds, F.mono h, r⟩
/-! ### the types of values -/
theorem ty_tup {H : Hp} {a : Addr} {xs : List V} (h : SqT K H a xs) : TyX K H (.ref a) (.type "tuple") := by
  rcases h with (h | ⟨o, h⟩) | ⟨o, its, n, h, hc, _⟩
  · exact .base (.tup h)
  · exact .fTuple h
  · exact .kTuple h hc
theorem k_int_int : PySem.W.kitOne K (.type "int") (.type "int") = some true := kit_ty (by decide +kernel)
theorem k_int_bool : PySem.W.kitOne K (.type "int") (.type "bool") = some false := kit_ty (by decide +kernel)
theorem k_tup_tup : PySem.W.kitOne K (.type "tuple") (.type "tuple") = some true := kit_ty (by decide +kernel)
theorem k_str_str : PySem.W.kitOne K (.type "str") (.type "str") = some true := kit_ty (by decide +kernel)
/-! ### is_integer -/
def spIsInteger : Sp := fun vs H Q _ => ∃ i : Int, vs = [.int i] ∧ Q (.bl true) H
theorem scIsInteger : FnScope ["thing"] ["thing"] (C8.fnScope sIsInteger) := C8.fnScope_by (by decide +kernel)
theorem ok_is_integer (D : DefN K mg "is_integer" sIsInteger ["thing"]) (X : Txt mg) : C8.Cal P w K mg base 1 "is_integer" spIsInteger [] := by
  refine mkCal D scIsInteger (fun vs H Q E h => ?_) (fun f cdv A outer s H vs Q E hr h => ?_)
  · obtain ⟨i, rfl, _⟩ := h; rfl
  obtain ⟨i, rfl, q⟩ := h
  refine ⟨_, pss_one (ps_ret (pe_and (pe_callB call_isi (by rfl) X.isinstance (by decide +kernel) (pa_cons (pv 0) (pa_cons (pe_bltn (v := .ty "int") (by rfl) X.int (by decide +kernel) rfl) pa_nil)))
    (pe_one (pe_not (pe_callB call_isi (by rfl) X.isinstance (by decide +kernel) (pa_cons (pv 0) (pa_cons (pe_bltn (v := .ty "bool") (by rfl) X.bool (by decide +kernel) rfl) pa_nil))))))), ?_⟩
  refine ⟨.int i, rfl, _, _, _, _, true, rfl, .ty "int", .base (.int _), k_int_int, true, rfl, iteT ?_⟩
  exact ⟨.int i, rfl, _, _, _, _, false, rfl, .ty "bool", .base (.int _), k_int_bool, false, rfl, q⟩
/-! ### is_within -/
def spIsWithin : Sp := fun vs H Q _ => ∃ i a b : Int, vs = [.int i, .int a, .int b] ∧ a ≤ i ∧ i ≤ b ∧ Q (.bl true) H
theorem scIsWithin : FnScope ["thing", "least", "most"] ["thing", "least", "most"] (C8.fnScope sIsWithin) := C8.fnScope_by (by decide +kernel)
theorem ok_is_within (D : DefN K mg "is_within" sIsWithin ["thing", "least", "most"]) (c1 : C8.Cal P w K mg base 1 "is_integer" spIsInteger []) : C8.Cal P w K mg base 2 "is_within" spIsWithin [] := by
  refine mkCal D scIsWithin (fun vs H Q E h => ?_) (fun f cdv A outer s H vs Q E hr h => ?_)
  · obtain ⟨i, a, b, rfl, _⟩ := h; rfl
  obtain ⟨i, a, b, rfl, h1, h2, q⟩ := h
  refine ⟨_, pss_one (ps_ret (pe_and (C8.pe_c c1 hr (by decide) (by rfl) (pa_cons (pv 0) pa_nil)) (pe_one (pe_chain op_le op_le (pv 1) (pv 0) (pv 2))))), ?_⟩
  refine ⟨.int i, rfl, i, rfl, true, rfl, iteT ?_⟩
  refine ⟨.int a, rfl, .int i, rfl, a, i, rfl, rfl, _, rfl, ?_⟩
  rw [decide_eq_true h1]
  refine iteT ⟨.int b, rfl, i, b, rfl, rfl, ?_⟩
  show Q (.bl (decide (i ≤ b))) H
  rw [decide_eq_true h2]
  exact q
/-! ### is_pair, is_triple -/
def spTupLen (K : PySem.W.Frag) (n : Nat) : Sp := fun vs H Q _ => ∃ (a : Addr) (xs : List V), vs = [.ref a] ∧ SqT K H a xs ∧ Q (.bl (decide (xs.length = n))) H
theorem scIsPair : FnScope ["thing"] ["thing"] (C8.fnScope sIsPair) := C8.fnScope_by (by decide +kernel)
theorem scIsTriple : FnScope ["thing"] ["thing"] (C8.fnScope sIsTriple) := C8.fnScope_by (by decide +kernel)
theorem ok_is_pair (D : DefN K mg "is_pair" sIsPair ["thing"]) (X : Txt mg) : C8.Cal P w K mg base 1 "is_pair" (spTupLen K 2) [] := by
  refine mkCal D scIsPair (fun vs H Q E h => ?_) (fun f cdv A outer s H vs Q E hr h => ?_)
  · obtain ⟨a, xs, rfl, _⟩ := h; rfl
  obtain ⟨a, xs, rfl, hS, q⟩ := h
  refine ⟨_, pss_one (ps_ret (pe_and (pe_callB call_isi (by rfl) X.isinstance (by decide +kernel) (pa_cons (pv 0) (pa_cons (pe_bltn (v := .ty "tuple") (by rfl) X.tuple (by decide +kernel) rfl) pa_nil)))
    (pe_one (pe_cmpR op_eq (pe_callB call_len_seq (by rfl) X.len PySem.boot_len (pa_cons (pv 0) pa_nil)) pe_int (nomark _))))), ?_⟩
  refine ⟨.ref a, rfl, _, _, _, _, true, rfl, .ty "tuple", ty_tup hS, k_tup_tup, true, rfl, iteT ?_⟩
  refine ⟨.ref a, rfl, a, xs, rfl, .inr hS, rfl, ?_⟩
  have e : decide (V.int (xs.length : Int) = V.int 2) = decide (xs.length = 2) := decide_eq_decide.mpr ⟨fun z => by have := V.int.inj z; omega, fun z => by rw [z]; rfl⟩
  show Q (.bl (decide (V.int (xs.length : Int) = V.int 2))) H
  rw [e]
  exact q
theorem ok_is_triple (D : DefN K mg "is_triple" sIsTriple ["thing"]) (X : Txt mg) : C8.Cal P w K mg base 1 "is_triple" (spTupLen K 3) [] := by
  refine mkCal D scIsTriple (fun vs H Q E h => ?_) (fun f cdv A outer s H vs Q E hr h => ?_)
  · obtain ⟨a, xs, rfl, _⟩ := h; rfl
  obtain ⟨a, xs, rfl, hS, q⟩ := h
  refine ⟨_, pss_one (ps_ret (pe_and (pe_callB call_isi (by rfl) X.isinstance (by decide +kernel) (pa_cons (pv 0) (pa_cons (pe_bltn (v := .ty "tuple") (by rfl) X.tuple (by decide +kernel) rfl) pa_nil)))
    (pe_one (pe_cmpR op_eq (pe_callB call_len_seq (by rfl) X.len PySem.boot_len (pa_cons (pv 0) pa_nil)) pe_int (nomark _))))), ?_⟩
  refine ⟨.ref a, rfl, _, _, _, _, true, rfl, .ty "tuple", ty_tup hS, k_tup_tup, true, rfl, iteT ?_⟩
  refine ⟨.ref a, rfl, a, xs, rfl, .inr hS, rfl, ?_⟩
  have e : decide (V.int (xs.length : Int) = V.int 3) = decide (xs.length = 3) := decide_eq_decide.mpr ⟨fun z => by have := V.int.inj z; omega, fun z => by rw [z]; rfl⟩
  show Q (.bl (decide (V.int (xs.length : Int) = V.int 3))) H
  rw [e]
  exact q
/-! ### is_word, is_door -/
theorem S_len (x : List Nat) : (S x).length = x.length := rfl
def spWord (T : List NdefX.NTab) : Sp := fun vs H Q _ => ∃ x : List Nat, vs = [.str (S x)] ∧ okLab x ∧ ∀ H', Gr T none H H' → Q (.bl true) H'
theorem scIsWord : FnScope ["thing", "sign"] ["thing"] (C8.fnScope sIsWord) := C8.fnScope_by (by decide +kernel)
theorem scIsDoor : FnScope ["thing"] ["thing"] (C8.fnScope sIsDoor) := C8.fnScope_by (by decide +kernel)
theorem small_has {c : Nat} (h1 : 97 ≤ c) (h2 : c ≤ 122) : c ∈ (("abcdefghijklmnopqrstuvwxyz" : String) : Str).cps.toList := by
  have e : (("abcdefghijklmnopqrstuvwxyz" : String) : Str).cps.toList = (List.range 26).map (· + 97) := by decide +kernel
  rw [e]
  exact List.mem_map.mpr ⟨c - 97, List.mem_range.mpr (by omega), by omega⟩
theorem ok_is_word {T : List NdefX.NTab} (D : DefN K mg "is_word" sIsWord ["thing"]) (X : Txt mg) : C8.Cal P w K mg base 1 "is_word" (spWord T) [] := by
  refine mkCal D scIsWord (fun vs H Q E h => ?_) (fun f cdv A outer s H vs Q E hr h => ?_)
  · obtain ⟨x, rfl, _⟩ := h; rfl
  obtain ⟨x, rfl, ⟨c, rfl, h1, h2⟩, q⟩ := h
  obtain ⟨tw, hW⟩ := X.mostWord
  obtain ⟨ts, hS⟩ := X.small
  refine ⟨_, pss_cons (ps_if (PW.pt (pw_or (pt_not (pt_val (pe_callB call_isi (by rfl) X.isinstance (by decide +kernel) (pa_cons (pv 0) (pa_cons (pe_bltn (v := .ty "str") (by rfl) X.str (by decide +kernel) rfl) pa_nil)))))
      (pw_or1 (pt_not (pt_chain op_le op_le pe_int (pe_callB call_len_str (by rfl) X.len PySem.boot_len (pa_cons (pv 0) pa_nil)) (pe_glob (v := .int 8) (by rfl) hW ⟨tw, rfl⟩)))))) (pss_one (ps_ret pe_bl)) pss_nil)
    (pss_one (ps_ret (pe_callB (cr_all rfl) (by rfl) X.all (by decide +kernel) (pa_cons
      (pe_lc (own := [("sign", 1)]) (g := gName 1) (tt := tYes) rfl scIsWord.nd (pi_str (pv 0)) (blkOk_by (N := ["thing", "sign"]) (sc := C8.fnScope sIsWord) (by decide +kernel)) (fun _ _ _ _ _ => pg_name (i := 1) scIsWord.nd rfl (Or.inl rfl)) (fun _ _ _ _ _ => pts_nil)
        (fun _ _ _ _ _ => pe_cmpR op_in_sign (pv 1) (pe_glob (v := .str "abcdefghijklmnopqrstuvwxyz") (by rfl) hS ⟨ts, rfl⟩) rfl)) pa_nil)))), ?_⟩
  refine ⟨.str (S [c]), rfl, _, _, _, _, true, rfl, .ty "str", .base (.str _), k_str_str, true, rfl, iteF ?_⟩
  refine ⟨.str (S [c]), rfl, S [c], rfl, (by show 1 ≤ sizeLine; decide), 1, ((S [c]).length : Int), rfl, rfl, true, rfl, iteT ⟨((S [c]).length : Int), 8, rfl, rfl, true, rfl, iteF ?_⟩⟩
  refine ⟨.str (S [c]), rfl, S [c], rfl, fun D nD => lc_it walk_str (fun i H3 => Gr T none H H3 ∧ H3 D = some (.lst ((List.replicate i true).map V.bl))) ⟨gr_new nD, upd_same⟩ (fun _ _ _ _ => True.intro) (fun i x H3 H4 hi hP hY => ?_) (fun H3 hP => ?_)⟩
  · obtain ⟨g, e⟩ := hP
    obtain ⟨rfl, c', hc, rfl⟩ := hY
    have e0 : i = 0 := by
      have : i < 1 := hi
      omega
    subst e0
    have ec : c = c' := by
      have z : (#[c] : Array Nat)[0]? = some c' := hc
      simpa using z
    subst ec
    refine ⟨rfl, .str (S [c]), rfl, c, _, rfl, rfl, _, e, (by show 0 < sizeLine; decide), ?_⟩
    rw [decide_eq_true (small_has h1 h2)]
    exact ⟨g.mut nD e (fun _ z => by cases z) (fun _ _ z => by cases z), upd_same⟩
  · obtain ⟨g, e⟩ := hP
    have q' := q H3 g
    exact ⟨D, [true], rfl, SqL.of e, q'⟩

theorem ok_is_door {T : List NdefX.NTab} (D : DefN K mg "is_door" sIsDoor ["thing"]) (X : Txt mg) (c1 : C8.Cal P w K mg base 1 "is_word" (spWord T) []) : C8.Cal P w K mg base 2 "is_door" (spWord T) [] := by
  refine mkCal D scIsDoor (fun vs H Q E h => ?_) (fun f cdv A outer s H vs Q E hr h => ?_)
  · obtain ⟨x, rfl, _⟩ := h; rfl
  obtain ⟨x, rfl, ⟨c, rfl, h1, h2⟩, q⟩ := h
  refine ⟨_, pss_one (ps_ret (pe_and (C8.pe_c c1 hr (by decide) (by rfl) (pa_cons (pv 0) pa_nil)) (pe_one (pe_cmpR op_eq (pe_callB call_len_str (by rfl) X.len PySem.boot_len (pa_cons (pv 0) pa_nil)) pe_int (nomark _))))), ?_⟩
  refine ⟨.str (S [c]), rfl, [c], rfl, ⟨c, rfl, h1, h2⟩, fun H' g => ⟨true, rfl, iteT ?_⟩⟩
  exact ⟨.str (S [c]), rfl, S [c], rfl, (by show 1 ≤ sizeLine; decide), rfl, q H' g⟩
/-! ### readings that come often -/
theorem rd_ix {σ : L2.St} {H : Hp} {Q : VK} {i k : Nat} {a : Addr} {xs : List V} {v : V} (h1 : σ[i]? = some (some (.ref a))) (h2 : SqT K H a xs) (h3 : xs[k]? = some v) (q : Q v H) : tOp (rIxT K) (tVar i) (tC (.int (k : Int))) σ H Q :=
  ⟨.ref a, h1, a, xs, (k : Int), v, rfl, rfl, h2, atI_nat h3, q⟩
theorem rd_ixEq {σ : L2.St} {H : Hp} {R : Bool → Hp → Prop} {i k : Nat} {a : Addr} {xs : List V} {x y : Str} (h1 : σ[i]? = some (some (.ref a))) (h2 : SqT K H a xs) (h3 : xs[k]? = some (.str x)) (b : Bool) (hb : decide (x = y) = b) (q : R b H) :
    tB (tOp rEq (tOp (rIxT K) (tVar i) (tC (.int (k : Int)))) (tC (.str y))) σ H R := by
  refine rd_ix h1 h2 h3 ⟨rfl, b, ?_, q⟩
  rw [← hb]
  exact congrArg V.bl (decide_eq_decide.mpr ⟨fun z => V.str.inj z, fun z => by rw [z]⟩)
theorem rd_ixEqV {σ : L2.St} {H : Hp} {Q : VK} {i k : Nat} {a : Addr} {xs : List V} {x y : Str} (h1 : σ[i]? = some (some (.ref a))) (h2 : SqT K H a xs) (h3 : xs[k]? = some (.str x)) (b : Bool) (hb : decide (x = y) = b) (q : Q (.bl b) H) :
    tOp rEq (tOp (rIxT K) (tVar i) (tC (.int (k : Int)))) (tC (.str y)) σ H Q := by
  refine rd_ix h1 h2 h3 ⟨rfl, ?_⟩
  have e : decide (V.str x = V.str y) = b := by
    rw [← hb]
    exact decide_eq_decide.mpr ⟨fun z => V.str.inj z, fun z => by rw [z]⟩
  rw [e]
  exact q
theorem calFalse {x : Str} {st : Stmt} {ps : List Str} {sp : Sp} {k : Nat} (D : DefN K mg x st ps) (h : ∀ vs H Q E, ¬ sp vs H Q E) : C8.Cal P w K mg base k x sp [] := by
  obtain ⟨f, fd, F, b⟩ := D.ex
  exact ⟨f, fd, ps, [], ⟨fun vs H Q E z => absurd z (h vs H Q E), fun A outer s H args us vs Q E _ _ _ _ z => absurd z (h vs H Q E)⟩, F.mgf, F.kp, b, .nil⟩
/-! ### is_part, is_plan_in -/
def spPart (T : List NdefX.NTab) (K : PySem.W.Frag) (D : Nat) : Sp := fun vs H Q _ => ∃ (v : V) (p : Pt) (n : Nat), vs = [v, .int (n : Int)] ∧ PartV K H v p ∧ Good n p ∧ dp p ≤ D ∧ ∀ H', Gr T none H H' → Q (.bl true) H'
def spPlanIn (T : List NdefX.NTab) (K : PySem.W.Frag) (D : Nat) : Sp := fun vs H Q _ => ∃ (v : V) (b : Pl) (n : Nat), vs = [v, .int (n : Int)] ∧ PlanV K H v b ∧ GoodL n b ∧ dpL b < D ∧ ∀ H', Gr T none H H' → Q (.bl true) H'
theorem scIsPart : FnScope ["thing", "depth"] ["thing", "depth"] (C8.fnScope sIsPart) := C8.fnScope_by (by decide +kernel)
theorem scIsPlanIn : FnScope ["thing", "depth", "item"] ["thing", "depth"] (C8.fnScope sIsPlanIn) := C8.fnScope_by (by decide +kernel)
theorem kind_wait (w : Bool) : decide (kindS w = "wait") = w := by cases w <;> decide
theorem ok_is_part {T : List NdefX.NTab} (D : DefN K mg "is_part" sIsPart ["thing", "depth"]) (cP : C8.Cal P w K mg base 1 "is_pair" (spTupLen K 2) []) (cT : C8.Cal P w K mg base 1 "is_triple" (spTupLen K 3) [])
    (cW : C8.Cal P w K mg base 1 "is_word" (spWord T) []) (cD : C8.Cal P w K mg base 2 "is_door" (spWord T) []) (cI : C8.Cal P w K mg base 2 "is_within" spIsWithin []) {n0 : Nat} (cL : C8.Cal P w K mg base (2 * n0 + 2) "is_plan_in" (spPlanIn T K n0) []) :
    C8.Cal P w K mg base (2 * n0 + 3) "is_part" (spPart T K n0) [] := by
  refine mkCal D scIsPart (fun vs H Q E h => ?_) (fun f cdv A outer s H vs Q E hr h => ?_)
  · obtain ⟨v, p, n, rfl, _⟩ := h; rfl
  obtain ⟨v, p, n, rfl, hv, hg, hd, q⟩ := h
  refine ⟨_, pss_cons (ps_if (pt_val (C8.pe_c cP hr (by omega) (by rfl) (pa_cons (pv 0) pa_nil)))
      (pss_cons (ps_if (pt_cmpR op_eq (pe_ix ix_tup (pv 0) pe_int (fun _ _ => rfl)) pe_str (nomark _)) (pss_one (ps_ret (C8.pe_c cW hr (by omega) (by rfl) (pa_cons (pe_ix ix_tup (pv 0) pe_int (fun _ _ => rfl)) pa_nil)))) pss_nil)
      (pss_cons (ps_if (pt_cmpR op_eq (pe_ix ix_tup (pv 0) pe_int (fun _ _ => rfl)) pe_str (nomark _)) pss_never pss_nil)
      (pss_one (ps_ret (pe_and (pe_cmpR op_eq (pe_ix ix_tup (pv 0) pe_int (fun _ _ => rfl)) pe_str (nomark _)) (pe_one (C8.pe_c cI hr (by omega) (by rfl) (pa_cons (pe_ix ix_tup (pv 0) pe_int (fun _ _ => rfl)) (pa_cons pe_int (pa_cons (pe_op op_sub (pv 1) pe_int) pa_nil)))))))))) pss_nil)
    (pss_cons (ps_if (PW.pt (pw_or (pt_not (pt_val (C8.pe_c cT hr (by omega) (by rfl) (pa_cons (pv 0) pa_nil)))) (pw_or (pt_cmpR op_notIn_seq (pe_ix ix_tup (pv 0) pe_int (fun _ _ => rfl)) (pe_tup (pa_cons pe_str (pa_cons pe_str pa_nil))) rfl)
        (pw_or1 (pt_not (pt_val (C8.pe_c cD hr (by omega) (by rfl) (pa_cons (pe_ix ix_tup (pv 0) pe_int (fun _ _ => rfl)) pa_nil)))))))) pss_never pss_nil)
    (pss_one (ps_ret (C8.pe_c cL hr (by omega) (by rfl) (pa_cons (pe_ix ix_tup (pv 0) pe_int (fun _ _ => rfl)) (pa_cons (pe_ifExp (pt_cmpR op_eq (pe_ix ix_tup (pv 0) pe_int (fun _ _ => rfl)) pe_str (nomark _)) (pe_op op_add (pv 1) pe_int) (pv 1)) pa_nil)))))), ?_⟩
  cases p with
  | name x =>
    obtain ⟨a, rfl, hS⟩ := hv.name_inv
    rw [good_name] at hg
    refine ⟨.ref a, rfl, a, _, rfl, hS, true, rfl, iteT ?_⟩
    refine rd_ixEq (i := 0) (k := 0) rfl hS rfl true (by decide) (iteT ?_)
    exact rd_ix (i := 0) (k := 1) rfl hS rfl ⟨x, rfl, hg, q⟩
  | got d =>
    obtain ⟨a, rfl, hS⟩ := hv.got_inv
    rw [good_got] at hg
    refine ⟨.ref a, rfl, a, _, rfl, hS, true, rfl, iteT ?_⟩
    refine rd_ixEq (i := 0) (k := 0) rfl hS rfl false (by decide) (iteF ?_)
    refine rd_ixEq (i := 0) (k := 0) rfl hS rfl false (by decide) (iteF ?_)
    refine rd_ixEqV (i := 0) (k := 0) rfl hS rfl true (by decide) ⟨true, rfl, iteT ?_⟩
    refine rd_ix (i := 0) (k := 1) rfl hS rfl ⟨.int (n : Int), rfl, (n : Int), 1, rfl, rfl, (d : Int), 0, (n : Int) - 1, rfl, by omega, by omega, ?_⟩
    exact q H (Gr.refl H)
  | box w d b =>
    obtain ⟨a, u, rfl, hS, hb⟩ := hv.box_inv
    rw [good_box] at hg
    rw [dp_box] at hd
    refine ⟨.ref a, rfl, a, _, rfl, hS, false, rfl, iteF ?_⟩
    refine ⟨.ref a, rfl, a, _, rfl, hS, true, rfl, iteF ?_⟩
    refine rd_ix (i := 0) (k := 0) rfl hS rfl ⟨(by show 2 ≤ sizeLine; decide), fun tp ntp => ?_⟩
    have g1 : Gr T none H (upd H tp (.tup [.str "letter", .str "wait"])) := gr_new ntp
    refine ⟨tp, _, rfl, .inr (SqT.of upd_same), rfl, rfl, false, ?_, iteF ?_⟩
    · cases w <;> rfl
    refine rd_ix (i := 0) (k := 1) rfl (g1.sqt0 hS) rfl ⟨d, rfl, hg.1, fun H2 g2 => ⟨true, rfl, iteF ?_⟩⟩
    have g3 := g1.trans g2
    refine rd_ix (i := 0) (k := 2) rfl (g3.sqt0 hS) rfl ?_
    refine rd_ixEq (i := 0) (k := 0) rfl (g3.sqt0 hS) rfl w (kind_wait w) ?_
    cases w
    · refine iteF ⟨.int (n : Int), rfl, u, b, n, rfl, g3.tp hb, hg.2, by omega, fun H' g => q H' (g3.trans g)⟩
    · refine iteT ⟨.int (n : Int), rfl, (n : Int), 1, rfl, rfl, u, b, n + 1, rfl, g3.tp hb, hg.2, by omega, fun H' g => q H' (g3.trans g)⟩

theorem ok_is_plan_in {T : List NdefX.NTab} (D : DefN K mg "is_plan_in" sIsPlanIn ["thing", "depth"]) (X : Txt mg) (cP : C8.Cal P w K mg base 1 "is_pair" (spTupLen K 2) []) (cI : C8.Cal P w K mg base 1 "is_integer" spIsInteger []) {n0 : Nat} (cL : C8.Cal P w K mg base (2 * n0 + 3) "is_part" (spPart T K n0) []) :
    C8.Cal P w K mg base (2 * n0 + 4) "is_plan_in" (spPlanIn T K (n0 + 1)) [] := by
  refine mkCal D scIsPlanIn (fun vs H Q E h => ?_) (fun f cdv A outer s H vs Q E hr h => ?_)
  · obtain ⟨v, p, n, rfl, _⟩ := h; rfl
  obtain ⟨v, b, n, rfl, hv, hg, hd, q⟩ := h
  obtain ⟨a, xs, rfl, hS, hI⟩ := hv.inv
  refine ⟨_, pss_cons (ps_if (pt_not (pt_val (pe_callB call_isi (by rfl) X.isinstance (by decide +kernel) (pa_cons (pv 0) (pa_cons (pe_bltn (v := .ty "tuple") (by rfl) X.tuple (by decide +kernel) rfl) pa_nil))))) pss_never pss_nil)
    (pss_cons (ps_for PassesOwn.never rfl (pi_tup (pv 0)) (pg_name (i := 2) scIsPlanIn.nd rfl (Or.inl rfl))
      (pss_one (ps_if (PW.pt (pw_or (pt_not (pt_val (C8.pe_c cP hr (by omega) (by rfl) (pa_cons (pv 2) pa_nil)))) (pw_or (pt_not (pt_val (C8.pe_c cI hr (by omega) (by rfl) (pa_cons (pe_ix ix_tup (pv 2) pe_int (fun _ _ => rfl)) pa_nil))))
        (pw_or (pt_cmpR op_lt (pe_ix ix_tup (pv 2) pe_int (fun _ _ => rfl)) pe_int (nomark _)) (pw_or1 (pt_not (pt_val (C8.pe_c cL hr (by omega) (by rfl) (pa_cons (pe_ix ix_tup (pv 2) pe_int (fun _ _ => rfl)) (pa_cons (pv 1) pa_nil))))))))))
        pss_never pss_nil)))
    (pss_one (ps_ret pe_bl))), ?_⟩
  refine ⟨.ref a, rfl, _, _, _, _, true, rfl, .ty "tuple", ty_tup hS, k_tup_tup, true, rfl, iteF ?_⟩
  refine ⟨.ref a, rfl, a, rfl, ⟨xs, hS⟩, for_it walk_tup (fun i σ H3 => ∃ y, σ = [some (.ref a), some (.int (n : Int)), y] ∧ Gr T none H H3) ⟨none, rfl, Gr.refl H⟩ (fun i σ H3 _ ⟨_, _, g⟩ => g.sqt0 hS) (fun i x σ H3 H4 hi hP hY => ?_) (fun σ H3 hP => ?_)⟩
  · obtain ⟨y, rfl, g⟩ := hP
    obtain ⟨rfl, hx⟩ := hY
    have hib : i < b.length := by rw [← hI.len]; exact hi
    obtain ⟨x', hx', hit⟩ := hI.get (List.getElem?_eq_getElem hib)
    rw [hx] at hx'
    cases hx'
    obtain ⟨c1, c2⟩ := (goodL_iff n b).mp hg _ (List.getElem_mem hib)
    obtain ⟨ia, u, rfl, hS2, hu⟩ := hit.inv
    have hS3 := g.sqt0 hS2
    refine ⟨.ref ia, rfl, ia, _, rfl, hS3, true, rfl, iteF ?_⟩
    refine rd_ix (i := 2) (k := 0) rfl hS3 rfl ⟨_, rfl, true, rfl, iteF ?_⟩
    refine rd_ix (i := 2) (k := 0) rfl hS3 rfl ⟨_, _, rfl, rfl, false, ?_, iteF ?_⟩
    · exact congrArg V.bl (decide_eq_false (by omega))
    refine rd_ix (i := 2) (k := 1) rfl hS3 rfl ⟨_, rfl, u, b[i].2, n, rfl, g.tp hu, c2, ?_, fun H5 g5 => ⟨true, rfl, iteF ⟨_, rfl, g.trans g5⟩⟩⟩
    have := dp_mem (List.getElem_mem hib)
    omega
  · obtain ⟨y, rfl, g⟩ := hP
    exact q H3 g
/-- all depths -/
theorem ok_plan_in {T : List NdefX.NTab} (D1 : DefN K mg "is_part" sIsPart ["thing", "depth"]) (D2 : DefN K mg "is_plan_in" sIsPlanIn ["thing", "depth"]) (X : Txt mg) (cP : C8.Cal P w K mg base 1 "is_pair" (spTupLen K 2) []) (cT : C8.Cal P w K mg base 1 "is_triple" (spTupLen K 3) [])
    (cW : C8.Cal P w K mg base 1 "is_word" (spWord T) []) (cD : C8.Cal P w K mg base 2 "is_door" (spWord T) []) (cI : C8.Cal P w K mg base 2 "is_within" spIsWithin []) (cG : C8.Cal P w K mg base 1 "is_integer" spIsInteger []) :
    ∀ n, C8.Cal P w K mg base (2 * n + 2) "is_plan_in" (spPlanIn T K n) []
  | 0 => calFalse D2 fun vs H Q E h => by
      obtain ⟨v, b, n, _, _, _, hd, _⟩ := h
      omega
  | n + 1 => ok_is_plan_in D2 X cP cG (ok_is_part D1 cP cT cW cD cI (ok_plan_in D1 D2 X cP cT cW cD cI cG n))
/-! ### check_plan, check_count -/
def spCheckPlan (T : List NdefX.NTab) (K : PySem.W.Frag) (D : Nat) : Sp := fun vs H Q _ => ∃ (v : V) (b : Pl), vs = [v] ∧ PlanV K H v b ∧ GoodL 0 b ∧ dpL b < D ∧ ∀ H', Gr T none H H' → Q .non H'
theorem scCheckPlan : FnScope ["thing"] ["thing"] (C8.fnScope sCheckPlan) := C8.fnScope_by (by decide +kernel)
theorem scCheckCount : FnScope ["thing", "least", "most"] ["thing", "least", "most"] (C8.fnScope sCheckCount) := C8.fnScope_by (by decide +kernel)
theorem ok_check_plan {T : List NdefX.NTab} (D : DefN K mg "check_plan" sCheckPlan ["thing"]) {n0 k : Nat} (c : C8.Cal P w K mg base k "is_plan_in" (spPlanIn T K n0) []) : C8.Cal P w K mg base (k + 1) "check_plan" (spCheckPlan T K n0) [] := by
  refine mkCal D scCheckPlan (fun vs H Q E h => ?_) (fun f cdv A outer s H vs Q E hr h => ?_)
  · obtain ⟨v, b, rfl, _⟩ := h; rfl
  obtain ⟨v, b, rfl, hv, hg, hd, q⟩ := h
  refine ⟨_, pss_one (ps_if (pt_not (pt_val (C8.pe_c c hr (Nat.le_refl _) (by rfl) (pa_cons (pv 0) (pa_cons pe_int pa_nil))))) pss_never pss_nil), ?_⟩
  exact ⟨v, rfl, v, b, 0, rfl, hv, hg, hd, fun H' g => ⟨true, rfl, iteF (q H' g)⟩⟩
def spCheckCount : Sp := fun vs H Q _ => ∃ i a b : Int, vs = [.int i, .int a, .int b] ∧ a ≤ i ∧ i ≤ b ∧ Q .non H
theorem ok_check_count (D : DefN K mg "check_count" sCheckCount ["thing", "least", "most"]) (c : C8.Cal P w K mg base 2 "is_within" spIsWithin []) : C8.Cal P w K mg base 3 "check_count" spCheckCount [] := by
  refine mkCal D scCheckCount (fun vs H Q E h => ?_) (fun f cdv A outer s H vs Q E hr h => ?_)
  · obtain ⟨i, a, b, rfl, _⟩ := h; rfl
  obtain ⟨i, a, b, rfl, h1, h2, q⟩ := h
  refine ⟨_, pss_one (ps_if (pt_not (pt_val (C8.pe_c c hr (Nat.le_refl _) (by rfl) (pa_cons (pv 0) (pa_cons (pv 1) (pa_cons (pv 2) pa_nil)))))) pss_never pss_nil), ?_⟩
  exact ⟨_, rfl, _, rfl, _, rfl, i, a, b, rfl, h1, h2, true, rfl, iteF q⟩
end
end G6

set_option autoImplicit false
set_option Elab.async false
set_option linter.all false
set_option maxRecDepth 100000
set_option maxHeartbeats 4000000
/-! The keys of parts as data; how they compare. -/
namespace G6
open PySem PySem.Spec PyProof.Rows L2
def labD : Pt → PyData
  | .name x => .str (S x)
  | .got d => .int (d : Int)
  | .box _ d _ => .str (S d)
mutual
def keyD : Pt → PyData
  | .name x => .tuple [.int ((1 : Nat) : Int), .int ((0 : Nat) : Int), .str (S x), .tuple []]
  | .got d => .tuple [.int ((1 : Nat) : Int), .int ((2 : Nat) : Int), .int (d : Int), .tuple []]
  | .box w d b => .tuple [.int ((1 + szL b : Nat) : Int), .int (((if w = true then 4 else 3) : Nat) : Int), .str (S d), .tuple (keysD b)]
def keysD : List (Nat × Pt) → List PyData
  | [] => []
  | (c, p) :: r => .tuple [keyD p, .int (c : Int)] :: keysD r
end
def keyI (q : Nat × Pt) : PyData := .tuple [keyD q.2, .int (q.1 : Int)]
theorem keysD_map : ∀ b : Pl, keysD b = b.map keyI
  | [] => by rw [keysD, List.map_nil]
  | (c, p) :: r => by rw [keysD, List.map_cons, keysD_map r]; rfl
def bodyOf : Pt → Pl
  | .box _ _ b => b
  | _ => []
def restT : Pt → List Nat
  | .name x => lab x ++ [0]
  | .got d => d :: [0]
  | .box _ d b => lab d ++ toksL b
theorem rank_box (w : Bool) (d : List Nat) (b : Pl) : rank (.box w d b) = if w = true then 4 else 3 := by cases w <;> rfl
theorem toks_split (p : Pt) : toks p = sz p :: rank p :: restT p := by
  cases p with
  | name x => rw [toks_name, sz]; rfl
  | got d => rw [toks_got, sz]; rfl
  | box w d b => rw [toks_box, sz_box, rank_box]; rfl
theorem keyD_eq (p : Pt) : keyD p = .tuple [.int (sz p : Int), .int (rank p : Int), labD p, .tuple (keysD (bodyOf p))] := by
  cases p with
  | name x => rw [keyD, sz]; simp only [bodyOf, keysD, rank, labD]
  | got d => rw [keyD, sz]; simp only [bodyOf, keysD, rank, labD]
  | box w d b => rw [keyD, sz_box, rank_box]; rfl
theorem lt_split (p q : Pt) : lt p q ↔ if sz p = sz q then (if rank p = rank q then restT p < restT q else rank p < rank q) else sz p < sz q := by
  unfold lt
  rw [toks_split p, toks_split q, List.cons_lt_cons_iff, List.cons_lt_cons_iff]
  by_cases h1 : sz p = sz q
  · rw [if_pos h1]
    by_cases h2 : rank p = rank q
    · rw [if_pos h2]
      constructor
      · rintro (z | ⟨_, z | ⟨_, z⟩⟩)
        · omega
        · omega
        · exact z
      · exact fun z => .inr ⟨h1, .inr ⟨h2, z⟩⟩
    · rw [if_neg h2]
      constructor
      · rintro (z | ⟨_, z | ⟨z, _⟩⟩)
        · omega
        · exact z
        · exact absurd z h2
      · exact fun z => .inr ⟨h1, .inl z⟩
  · rw [if_neg h1]
    constructor
    · rintro (z | ⟨z, _⟩)
      · exact z
      · exact absurd z h1
    · exact .inl
/-! ### equal keys -/
theorem keys_eqv_of : ∀ (b b' : Pl), (∀ q ∈ b, ∀ t, PyData.eqv (keyD q.2) (keyD t) = decide (q.2 = t)) → PyData.eqvAll (b.map keyI) (b'.map keyI) = decide (b = b')
  | [], [], _ => by simp [eqvAll_nil]
  | [], _ :: _, _ => by simp [PyData.eqvAll]
  | _ :: _, [], _ => by simp [PyData.eqvAll]
  | (c, p) :: r, (d, q) :: s, h => by
    have h1 : PyData.eqv (keyD p) (keyD q) = decide (p = q) := h (c, p) (List.mem_cons_self ..) q
    rw [List.map_cons, List.map_cons, eqvAll_cons, keys_eqv_of r s fun q hq => h q (List.mem_cons_of_mem _ hq)]
    unfold keyI
    rw [eqv_tuple, eqvAll_cons, eqvAll_cons, eqvAll_nil, Bool.and_true]
    dsimp only
    rw [eqv_int, h1, cast_eq]
    by_cases e1 : c = d <;> by_cases e2 : p = q <;> by_cases e3 : r = s <;> simp [e1, e2, e3]
theorem four_eqv (a1 a2 b1 b2 : Int) (x y : PyData) (xs ys : List PyData) : PyData.eqv (.tuple [.int a1, .int a2, x, .tuple xs]) (.tuple [.int b1, .int b2, y, .tuple ys]) =
    (decide (a1 = b1) && (decide (a2 = b2) && (PyData.eqv x y && PyData.eqvAll xs ys))) := by
  rw [eqv_tuple, eqvAll_cons, eqvAll_cons, eqvAll_cons, eqvAll_cons, eqvAll_nil, eqv_int, eqv_int, eqv_tuple, Bool.and_true]
theorem key_eqv : ∀ (p q : Pt), PyData.eqv (keyD p) (keyD q) = decide (p = q) := by
  refine Pt.ind (fun x q => ?_) (fun d q => ?_) (fun w d b ih q => ?_)
  · rw [keyD_eq, keyD_eq, four_eqv, cast_eq, cast_eq]
    cases q with
    | name y =>
      simp only [labD, bodyOf, keysD, eqv_str, S_eq, eqvAll_nil, sz, rank]
      by_cases e : x = y <;> simp [e]
    | got e => simp [rank]
    | box w e b => cases w <;> simp [rank]
  · rw [keyD_eq, keyD_eq, four_eqv, cast_eq, cast_eq]
    cases q with
    | name y => simp [rank]
    | got e =>
      simp only [labD, bodyOf, keysD, eqv_int, cast_eq, eqvAll_nil, sz, rank]
      by_cases h : d = e <;> simp [h]
    | box w e b => cases w <;> simp [rank]
  · rw [keyD_eq, keyD_eq, four_eqv, cast_eq, cast_eq]
    cases q with
    | name y => cases w <;> simp [rank]
    | got e => cases w <;> simp [rank]
    | box w' e b' =>
      simp only [labD, bodyOf, eqv_str, S_eq, sz_box, rank_box]
      rw [keysD_map, keysD_map, keys_eqv_of b b' fun q hq t => ih q hq t]
      by_cases e2 : d = e <;> by_cases e3 : b = b'
      · subst e2 e3
        cases w <;> cases w' <;> simp
      · cases w <;> cases w' <;> simp [e2, e3]
      · cases w <;> cases w' <;> simp [e2, e3]
      · cases w <;> cases w' <;> simp [e2, e3]
theorem keys_eqv (b b' : Pl) : PyData.eqvAll (keysD b) (keysD b') = decide (b = b') := by
  rw [keysD_map, keysD_map, keys_eqv_of b b' fun q _ t => key_eqv q.2 t]
/-! ### what the library asks of keys -/
theorem keys_lay_of : ∀ b : Pl, (∀ q ∈ b, PyData.canLay0 (keyD q.2) = true) → PyData.canLayAll0 (b.map keyI) = true
  | [], _ => canLay_nil
  | (c, p) :: r, h => by
    have h1 : PyData.canLay0 (keyD p) = true := h (c, p) (List.mem_cons_self ..)
    rw [List.map_cons, canLay_cons, keys_lay_of r fun q hq => h q (List.mem_cons_of_mem _ hq)]
    unfold keyI
    rw [canLay_tuple, canLay_cons, canLay_cons, canLay_nil, canLay_int, h1]
    rfl
theorem key_lay : ∀ (p : Pt) (n : Nat), Good n p → PyData.canLay0 (keyD p) = true := by
  refine Pt.ind (fun x n g => ?_) (fun d n g => ?_) (fun w d b ih n g => ?_)
  · rw [good_name] at g
    rw [keyD_eq, canLay_tuple, canLay_cons, canLay_cons, canLay_cons, canLay_cons, canLay_nil, canLay_int, canLay_int, canLay_tuple]
    simp only [labD, bodyOf, keysD, strOk_S g, canLay_nil, Bool.and_true]
  · rw [keyD_eq, canLay_tuple, canLay_cons, canLay_cons, canLay_cons, canLay_cons, canLay_nil, canLay_int, canLay_int, canLay_tuple]
    simp only [labD, bodyOf, keysD, canLay_int, canLay_nil, Bool.and_true]
  · rw [good_box] at g
    rw [keyD_eq, canLay_tuple, canLay_cons, canLay_cons, canLay_cons, canLay_cons, canLay_nil, canLay_int, canLay_int, canLay_tuple]
    simp only [labD, bodyOf]
    rw [keysD_map, keys_lay_of b fun q hq => ih q hq _ ((goodL_iff _ _).mp g.2 q hq).2, strOk_S g.1]
    rfl
theorem keys_lay {n : Nat} {b : Pl} (g : GoodL n b) : PyData.canLayAll0 (keysD b) = true := by
  rw [keysD_map]
  exact keys_lay_of b fun q hq => key_lay q.2 n ((goodL_iff _ _).mp g q hq).2
theorem keys_depth_of {b : Pl} {k : Nat} (h : ∀ q ∈ b, PyData.depth (keyD q.2) ≤ k) : PyData.depthAll (keysD b) ≤ k + 1 := by
  rw [keysD_map]
  refine depthAll_le fun d hd => ?_
  obtain ⟨q, hq, rfl⟩ := List.mem_map.mp hd
  unfold keyI
  rw [depth_tuple, depthAll_cons, depthAll_cons]
  have h1 := h q hq
  simp only [PyData.depth, PyData.depthAll]
  omega
theorem key_depth : ∀ p : Pt, PyData.depth (keyD p) ≤ 3 * dp p + 2 := by
  refine Pt.ind (fun x => ?_) (fun d => ?_) (fun w d b ih => ?_)
  · rw [keyD_eq]
    simp [PyData.depth, PyData.depthAll, labD, bodyOf, keysD]
  · rw [keyD_eq]
    simp [PyData.depth, PyData.depthAll, labD, bodyOf, keysD]
  · rw [keyD_eq, dp_box, depth_tuple, depthAll_cons, depthAll_cons, depthAll_cons, depthAll_cons, depth_tuple]
    have h1 := keys_depth_of (b := b) (k := 3 * dpL b + 2) fun q hq => Nat.le_trans (ih q hq) (by have := dp_mem hq; omega)
    simp only [PyData.depth, PyData.depthAll, labD, bodyOf]
    omega
theorem keys_depth (b : Pl) : PyData.depthAll (keysD b) ≤ 3 * dpL b + 3 := keys_depth_of (k := 3 * dpL b + 2) fun q hq => Nat.le_trans (key_depth q.2) (by have := dp_mem hq; omega)
/-! ### tuples compare by their first places that differ -/
open PySem.SeqAt
/-- the places' own < decides where they differ first -/
def LtW (A : Around) (s : Shared) : List Value → List Value → Bool → Prop
  | [], [], k => k = false
  | [], _ :: _, k => k = true
  | _ :: _, [], k => k = false
  | v :: vs, w :: ws, k => ∃ e : Bool, EqAt A s v w e ∧ (if e = true then LtW A s vs ws k else RcLt A s v w k)
theorem LtW.fin {A : Around} {s : Shared} {vs ws : List Value} {k : Bool} (h : LtW A s vs ws k) (e : vs.zip ws = []) : k = decide (vs.length < ws.length) := by
  cases vs with
  | nil =>
    cases ws with
    | nil => exact h
    | cons w ws => exact h.trans (by simp)
  | cons v vs =>
    cases ws with
    | nil => exact h.trans (by simp)
    | cons w ws => simp at e
section
open AutoSeq1 (wpAny_loadPart')
open MeetsSeq MeetsSeq2 MeetsSeq3 SeqRoads2
theorem tuple_lt1 (l b : Addr) (items items2 : Array Value) (n n2 : Nat) (dd dd2 : Option Addr) (sl sl2 : Array (Option Value)) (k : Bool) :
    Meets (Builtin.«tuple.__lt__» ⟨[.ref l, .ref b], []⟩)
      (fun A R s => s.heap.get? l = some { cls := .type "tuple", dict := dd, data := .seq items n, slots := sl } ∧ s.heap.get? b = some { cls := .type "tuple", dict := dd2, data := .seq items2 n2, slots := sl2 } ∧
        LtW A.in1 s items.toList items2.toList k ∧ R (.ok (.ret (.bool k))) s) :=
  .of_wp fun prog w A R s h => by
    obtain ⟨hp, g, d, tk, os⟩ := s; obtain ⟨hl, hb, he, h⟩ := h
    have f2 := AutoSeq1.sub_tuple_tuple
    wp_walk using wpAny_loadPart' hl, wpAny_loadPart' hb, wpAny_forIn_list _ (fun rest b s' => b.1 = none ∧ s' = ⟨hp, g, d, tk, os⟩ ∧ ∃ vs ws : List Value, rest = vs.zip ws ∧ LtW A.in1 ⟨hp, g, d, tk, os⟩ vs ws k ∧
      decide (items.size < items2.size) = decide (vs.length < ws.length)) _
    case turn =>
      rintro ⟨y, x⟩ rest b s' ⟨hb', rfl, vs, ws, hz, hw, hd⟩
      cases vs with
      | nil => cases hz
      | cons v vs =>
        cases ws with
        | nil => cases hz
        | cons w' ws =>
          rw [List.zip_cons_cons] at hz
          injection hz with hyx hrest
          cases hyx
          obtain ⟨e, he, hr⟩ := hw
          refine wpAny_bind (he prog w _ _ ?_)
          cases e with
          | true =>
            rw [if_pos rfl] at hr
            wp_walk
            exact ⟨rfl, rfl, vs, ws, hrest, hr, by rw [hd]; simp⟩
          | false =>
            rw [if_neg Bool.false_ne_true] at hr
            have hri := hr prog w
            wp_walk using hri
            exact ⟨_, rfl, h⟩
    case fin =>
      rintro ⟨b1, b2⟩ s' ⟨hb', rfl, vs, ws, hz, hw, hd⟩
      simp only at hb'
      subst hb'
      have hk : k = decide (items.size < items2.size) := by rw [hd]; exact hw.fin hz.symm
      rw [hk] at h
      wp_walk
      exact ⟨_, rfl, by simpa [Builtin.Tuple.tupleCompareSizes] using h⟩
    case h =>
      exact ⟨rfl, rfl, items.toList, items2.toList, rfl, he, by simp⟩
theorem RcLt.tuples1 {A : Around} {s : Shared} {l b : Addr} {items items2 : Array Value} {k : Bool} (hl : s.heap.IsTuple l items) (hb : s.heap.IsTuple b items2) (hu : A.units < cLine) (he : LtW A.in1 s items.toList items2.toList k) :
    RcLt A s (.ref l) (.ref b) k := fun prog w E Q h => by
  obtain ⟨⟨cls, dd, data, sl⟩, ho, hc, n, hd⟩ := id hl
  obtain ⟨⟨cls2, dd2, data2, sl2⟩, ho2, hc2, n2, hd2⟩ := id hb
  simp only at hc hd hc2 hd2
  subst hc hd hc2 hd2
  exact richCompare_meets_room (op := .Lt) ⟨_, ho, rfl⟩ ⟨_, ho2, rfl⟩ F.slot_tuple_lt F.entry_tuple_lt (F.args_tuple_lt_2 _ _) (tuple_lt1 l b items items2 n n2 dd dd2 sl sl2 k)
    ⟨ho, ho2, he, show Value.bool k ≠ Value.notImplemented ∧ Q (.bool k) s from ⟨(fun x => nomatch x), h⟩⟩ hu
end
end G6

set_option autoImplicit false
set_option Elab.async false
set_option linter.all false
set_option maxRecDepth 100000
set_option maxHeartbeats 4000000
/-! Keys of parts compare as the parts do; a list of them can be sorted. -/
namespace G6
open PySem PySem.Spec PyProof.Rows L2
open PySem.SeqAt
section
variable {A : Around} {s : Shared}
theorem LtW.same {v w : Value} {vs ws : List Value} {k : Bool} (h : EqAt A s v w true) (r : LtW A s vs ws k) : LtW A s (v :: vs) (w :: ws) k := ⟨true, h, by rw [if_pos rfl]; exact r⟩
theorem LtW.diff {v w : Value} {vs ws : List Value} {k : Bool} (h : EqAt A s v w false) (r : RcLt A s v w k) : LtW A s (v :: vs) (w :: ws) k := ⟨false, h, by rw [if_neg Bool.false_ne_true]; exact r⟩
theorem rcLt_int {a b : Int} {t u : Tok} : RcLt A s (.int a t) (.int b u) (decide (a < b)) := fun _ _ _ _ h => PyProof.Rows.lt_int h
theorem rcLt_str {x y : Str} {t u : Tok} : RcLt A s (.str x t) (.str y u) (decide (x.cps.toList < y.cps.toList)) := fun _ _ _ _ h => PyProof.Rows.lt_str h
theorem eq_int_t {a b : Int} {t u : Tok} (h : a = b) : EqAt A s (.int a t) (.int b u) true := by
  have z := EqAt.int_int (A := A) (s := s) a t b u
  rw [h, beq_self_eq_true] at z
  rw [h]
  exact z
theorem eq_int_f {a b : Int} {t u : Tok} (h : a ≠ b) : EqAt A s (.int a t) (.int b u) false := by
  have z := EqAt.int_int (A := A) (s := s) a t b u
  rw [beq_false_of_ne h] at z
  exact z
theorem eq_str_t {a b : Str} {t u : Tok} (h : a = b) : EqAt A s (.str a t) (.str b u) true := by
  have z := EqAt.str_str (A := A) (s := s) a t b u
  rw [h, beq_self_eq_true] at z
  rw [h]
  exact z
theorem eq_str_f {a b : Str} {t u : Tok} (h : a ≠ b) : EqAt A s (.str a t) (.str b u) false := by
  have z := EqAt.str_str (A := A) (s := s) a t b u
  rw [beq_false_of_ne h] at z
  exact z
theorem readsTup {h : Heap} {v : Value} {ds : List PyData} {as : List Addr} (r : Reads h v (.tuple ds) as) : ∃ a items, v = .ref a ∧ h.IsTuple a items ∧ ReadsAll h items.toList ds as := by
  cases r with
  | tuple h1 h2 h3 h4 => exact ⟨_, _, rfl, ⟨_, h1, h2, _, h3⟩, h4⟩
theorem readsCons {h : Heap} {vs : List Value} {d : PyData} {ds : List PyData} {as : List Addr} (r : ReadsAll h vs (d :: ds) as) : ∃ v ws bs cs, vs = v :: ws ∧ Reads h v d bs ∧ ReadsAll h ws ds cs := by
  cases r with
  | cons h1 h2 => exact ⟨_, _, _, _, rfl, h1, h2⟩
theorem readsNil {h : Heap} {vs : List Value} {as : List Addr} (r : ReadsAll h vs [] as) : vs = [] := by cases r; rfl
theorem readsInt {h : Heap} {v : Value} {i : Int} {as : List Addr} (r : Reads h v (.int i) as) : ∃ t, v = .int i t := by cases r; exact ⟨_, rfl⟩
theorem readsStr {h : Heap} {v : Value} {x : Str} {as : List Addr} (r : Reads h v (.str x) as) : ∃ t, v = .str x t := by cases r; exact ⟨_, rfl⟩
theorem in1_units : A.in1.units = A.units + 1 := rfl
theorem Sl {x y : List Nat} : (decide ((S x).cps.toList < (S y).cps.toList)) = decide (x < y) := rfl
/-- lists of keys -/
theorem keys_lt_of {b : Pl} (ih : ∀ q ∈ b, ∀ (t : Pt) (n m : Nat) (A : Around) (u v : Value) (as bs : List Addr), Good n q.2 → Good m t → Reads s.heap u (keyD q.2) as → Reads s.heap v (keyD t) bs → A.units + 3 * dp q.2 + 3 < cLine → RcLt A s u v (decide (lt q.2 t))) :
    ∀ (b' : Pl) (n m : Nat) (A : Around) (us vs : List Value) (as bs : List Addr), GoodL n b → GoodL m b' → ReadsAll s.heap us (b.map keyI) as → ReadsAll s.heap vs (b'.map keyI) bs → A.units + 3 * dpL b + 4 < cLine → LtW A s us vs (decide (toksL b < toksL b')) := by
  induction b with
  | nil =>
    intro b' n m A us vs as bs _ _ ra rb _
    rw [List.map_nil] at ra
    cases readsNil ra
    cases b' with
    | nil =>
      rw [List.map_nil] at rb
      cases readsNil rb
      exact decide_eq_false (List.lt_irrefl _)
    | cons q b' =>
      obtain ⟨c, p⟩ := q
      rw [List.map_cons] at rb
      obtain ⟨v, ws, _, _, rfl, _, _⟩ := readsCons rb
      refine decide_eq_true ?_
      rw [toksL_nil, toksL_cons, List.cons_lt_cons_iff]
      exact .inl (by omega)
  | cons q b hb =>
    intro b' n m A us vs as bs ga gb ra rb hu
    obtain ⟨c, p⟩ := q
    rw [List.map_cons] at ra
    obtain ⟨u, us, _, _, rfl, r1, r2⟩ := readsCons ra
    cases b' with
    | nil =>
      rw [List.map_nil] at rb
      cases readsNil rb
      refine decide_eq_false ?_
      rw [toksL_nil, toksL_cons, List.cons_lt_cons_iff]
      omega
    | cons q' b' =>
      obtain ⟨c', p'⟩ := q'
      rw [List.map_cons] at rb
      obtain ⟨v, vs, _, _, rfl, r3, r4⟩ := readsCons rb
      have ga1 : Good n p := ((goodL_iff _ _).mp ga (c, p) (List.mem_cons_self ..)).2
      have gb1 : Good m p' := ((goodL_iff _ _).mp gb (c', p') (List.mem_cons_self ..)).2
      have ga2 : GoodL n b := (goodL_iff _ _).mpr fun x hx => (goodL_iff _ _).mp ga x (List.mem_cons_of_mem _ hx)
      have gb2 : GoodL m b' := (goodL_iff _ _).mpr fun x hx => (goodL_iff _ _).mp gb x (List.mem_cons_of_mem _ hx)
      rw [dpL_cons] at hu
      obtain ⟨ad, xs, eu, hl, ra2⟩ := readsTup r1
      obtain ⟨bd, ys, ev, hl', rb2⟩ := readsTup r3
      subst eu ev
      obtain ⟨k, xs1, _, _, ex, rk, ra3⟩ := readsCons ra2
      obtain ⟨i, xs2, _, _, ex2, ri, ra4⟩ := readsCons ra3
      obtain ⟨ti, rfl⟩ := readsInt ri
      cases readsNil ra4
      subst ex2
      obtain ⟨k', ys1, _, _, ey, rk', rb3⟩ := readsCons rb2
      obtain ⟨i', ys2, _, _, ey2, ri', rb4⟩ := readsCons rb3
      obtain ⟨tj, rfl⟩ := readsInt ri'
      cases readsNil rb4
      subst ey2
      have d1 := key_depth p
      have dmin : ∀ A' : Around, A'.units + 3 * dp p + 2 < cLine → A'.units + min (keyD p).depth (keyD p').depth < cLine := fun A' h => by
        have := Nat.min_le_left (keyD p).depth (keyD p').depth
        omega
      have eI : EqAt A s (.ref ad) (.ref bd) (PyData.eqv (keyI (c, p)) (keyI (c', p'))) := by
        refine eqAt_reads _ _ A s _ _ _ _ r1 r3 ?_ ?_ ?_
        · show PyData.canLay0 (.tuple [keyD p, .int (c : Int)]) = true
          rw [canLay_tuple, canLay_cons, canLay_cons, canLay_nil, canLay_int, key_lay p n ga1]
          rfl
        · show PyData.canLay0 (.tuple [keyD p', .int (c' : Int)]) = true
          rw [canLay_tuple, canLay_cons, canLay_cons, canLay_nil, canLay_int, key_lay p' m gb1]
          rfl
        · have h3 : PyData.depth (keyI (c, p)) = max (PyData.depth (keyD p)) (max 0 0) + 1 := by
            unfold keyI
            rw [depth_tuple, depthAll_cons, depthAll_cons]
            simp [PyData.depth, PyData.depthAll]
          have := Nat.min_le_left (keyI (c, p)).depth (keyI (c', p')).depth
          omega
      have eqI : PyData.eqv (keyI (c, p)) (keyI (c', p')) = (decide (p = p') && decide (c = c')) := by
        unfold keyI
        rw [eqv_tuple, eqvAll_cons, eqvAll_cons, eqvAll_nil, key_eqv, eqv_int, cast_eq, Bool.and_true]
      rw [eqI] at eI
      by_cases hp : p = p'
      · subst hp
        by_cases hc : c = c'
        · subst hc
          rw [decide_eq_true rfl, decide_eq_true rfl] at eI
          refine LtW.same eI ?_
          have e := hb (fun q hq => ih q (List.mem_cons_of_mem _ hq)) b' n m A us vs _ _ ga2 gb2 r2 r4 (by omega)
          have e2 : (toksL ((c, p) :: b) < toksL ((c, p) :: b')) ↔ toksL b < toksL b' := by
            rw [toksL_cons_lt, if_pos rfl, if_pos rfl]
          rw [decide_eq_decide.mpr e2]
          exact e
        · rw [decide_eq_true rfl, decide_eq_false hc] at eI
          refine LtW.diff eI (RcLt.tuples1 hl hl' (by omega) ?_)
          rw [ex, ey]
          have e2 : (toksL ((c, p) :: b) < toksL ((c', p) :: b')) ↔ (c : Int) < (c' : Int) := by
            rw [toksL_cons_lt, if_pos rfl, if_neg hc]
            omega
          rw [decide_eq_decide.mpr e2]
          refine LtW.same ?_ (LtW.diff (eq_int_f (fun z => hc (by omega))) rcLt_int)
          have z := eqAt_reads _ _ A.in1 s _ _ _ _ rk rk' (key_lay p n ga1) (key_lay p m gb1) (dmin A.in1 (by rw [in1_units]; omega))
          rw [key_eqv, decide_eq_true rfl] at z
          exact z
      · rw [decide_eq_false hp] at eI
        refine LtW.diff eI (RcLt.tuples1 hl hl' (by omega) ?_)
        rw [ex, ey]
        have e2 : (toksL ((c, p) :: b) < toksL ((c', p') :: b')) ↔ lt p p' := by rw [toksL_cons_lt, if_neg hp]
        rw [decide_eq_decide.mpr e2]
        refine LtW.diff ?_ (ih (c, p) (List.mem_cons_self ..) p' n m A.in1 k k' _ _ ga1 gb1 rk rk' (by rw [in1_units]; dsimp only; omega))
        have z := eqAt_reads _ _ A.in1 s _ _ _ _ rk rk' (key_lay p n ga1) (key_lay p' m gb1) (dmin A.in1 (by rw [in1_units]; omega))
        rw [key_eqv, decide_eq_false hp] at z
        exact z
theorem dp_body (p : Pt) : (bodyOf p = [] ∧ True) ∨ dp p = 1 + dpL (bodyOf p) := by
  cases p with
  | name x => exact .inl ⟨rfl, trivial⟩
  | got d => exact .inl ⟨rfl, trivial⟩
  | box w d b => exact .inr (dp_box w d b)
/-- the four places of two keys -/
theorem four_lt {p q : Pt} {n m : Nat} {A : Around} {us vs : List Value} {as bs : List Addr} (gp : Good n p) (gq : Good m q) (ra : ReadsAll s.heap us [.int (sz p : Int), .int (rank p : Int), labD p, .tuple (keysD (bodyOf p))] as)
    (rb : ReadsAll s.heap vs [.int (sz q : Int), .int (rank q : Int), labD q, .tuple (keysD (bodyOf q))] bs)
    (last : sz p = sz q → rank p = rank q → ∀ (l1 l2 i1 i2 : Value) (as bs cs ds : List Addr), Reads s.heap l1 (labD p) as → Reads s.heap l2 (labD q) bs → Reads s.heap i1 (.tuple (keysD (bodyOf p))) cs → Reads s.heap i2 (.tuple (keysD (bodyOf q))) ds →
      LtW A s [l1, i1] [l2, i2] (decide (restT p < restT q))) : LtW A s us vs (decide (lt p q)) := by
  obtain ⟨u1, us, _, _, rfl, r1, ra⟩ := readsCons ra
  obtain ⟨u2, us, _, _, rfl, r2, ra⟩ := readsCons ra
  obtain ⟨u3, us, _, _, rfl, r3, ra⟩ := readsCons ra
  obtain ⟨u4, us, _, _, rfl, r4, ra⟩ := readsCons ra
  cases readsNil ra
  obtain ⟨v1, vs, _, _, rfl, k1, rb⟩ := readsCons rb
  obtain ⟨v2, vs, _, _, rfl, k2, rb⟩ := readsCons rb
  obtain ⟨v3, vs, _, _, rfl, k3, rb⟩ := readsCons rb
  obtain ⟨v4, vs, _, _, rfl, k4, rb⟩ := readsCons rb
  cases readsNil rb
  obtain ⟨t1, rfl⟩ := readsInt r1
  obtain ⟨t2, rfl⟩ := readsInt r2
  obtain ⟨t3, rfl⟩ := readsInt k1
  obtain ⟨t4, rfl⟩ := readsInt k2
  by_cases h1 : sz p = sz q
  · refine LtW.same (eq_int_t (by rw [h1])) ?_
    by_cases h2 : rank p = rank q
    · have e : lt p q ↔ restT p < restT q := by rw [lt_split, if_pos h1, if_pos h2]
      rw [decide_eq_decide.mpr e]
      exact LtW.same (eq_int_t (by rw [h2])) (last h1 h2 _ _ _ _ _ _ _ _ r3 k3 r4 k4)
    · have e : lt p q ↔ (rank p : Int) < (rank q : Int) := by
        rw [lt_split, if_pos h1, if_neg h2]
        omega
      rw [decide_eq_decide.mpr e]
      exact LtW.diff (eq_int_f fun z => h2 (by omega)) rcLt_int
  · have e : lt p q ↔ (sz p : Int) < (sz q : Int) := by
      rw [lt_split, if_neg h1]
      omega
    rw [decide_eq_decide.mpr e]
    exact LtW.diff (eq_int_f fun z => h1 (by omega)) rcLt_int
theorem eq_emp {u v : Value} {as bs : List Addr} {A : Around} (r : Reads s.heap u (.tuple []) as) (k : Reads s.heap v (.tuple []) bs) (hu : A.units + 1 < cLine) : EqAt A s u v true := by
  have z := eqAt_reads _ _ A s _ _ _ _ r k (by rw [canLay_tuple, canLay_nil]) (by rw [canLay_tuple, canLay_nil]) (by simp only [PyData.depth, PyData.depthAll]; omega)
  rw [eqv_tuple, eqvAll_nil] at z
  exact z
/-- the rows behind size and rank, by cases -/
theorem last_lt {p : Pt} (ihb : ∀ q ∈ bodyOf p, ∀ (t : Pt) (n m : Nat) (A : Around) (u v : Value) (as bs : List Addr), Good n q.2 → Good m t → Reads s.heap u (keyD q.2) as → Reads s.heap v (keyD t) bs → A.units + 3 * dp q.2 + 3 < cLine → RcLt A s u v (decide (lt q.2 t)))
    {q : Pt} {n m : Nat} {A : Around} (gp : Good n p) (gq : Good m q) (hr : rank p = rank q) (hu : A.units + 3 * dp p + 2 < cLine) {l1 l2 i1 i2 : Value} {as bs cs ds : List Addr}
    (r1 : Reads s.heap l1 (labD p) as) (r2 : Reads s.heap l2 (labD q) bs) (r3 : Reads s.heap i1 (.tuple (keysD (bodyOf p))) cs) (r4 : Reads s.heap i2 (.tuple (keysD (bodyOf q))) ds) : LtW A s [l1, i1] [l2, i2] (decide (restT p < restT q)) := by
  cases p with
  | name x =>
    cases q with
    | name y =>
      obtain ⟨t1, rfl⟩ := readsStr r1
      obtain ⟨t2, rfl⟩ := readsStr r2
      simp only [bodyOf, keysD] at r3 r4
      by_cases h : x = y
      · subst h
        refine LtW.same (eq_str_t rfl) (LtW.same (eq_emp r3 r4 (by omega)) ?_)
        exact decide_eq_false (List.lt_irrefl _)
      · have e : restT (.name x) < restT (.name y) ↔ x < y := lab_row x y [0] [0] h
        rw [decide_eq_decide.mpr e]
        exact LtW.diff (eq_str_f fun z => h (S_inj z)) rcLt_str
    | got e => exact absurd hr (by simp [rank])
    | box w e b => exact absurd hr (by cases w <;> simp [rank])
  | got d =>
    cases q with
    | name y => exact absurd hr (by simp [rank])
    | got e =>
      obtain ⟨t1, rfl⟩ := readsInt r1
      obtain ⟨t2, rfl⟩ := readsInt r2
      simp only [bodyOf, keysD] at r3 r4
      by_cases h : d = e
      · subst h
        refine LtW.same (eq_int_t rfl) (LtW.same (eq_emp r3 r4 (by omega)) ?_)
        exact decide_eq_false (List.lt_irrefl _)
      · have e2 : restT (.got d) < restT (.got e) ↔ (d : Int) < (e : Int) := by
          show d :: [0] < e :: [0] ↔ _
          rw [List.cons_lt_cons_iff]
          constructor
          · rintro (z | ⟨z, _⟩)
            · omega
            · exact absurd z h
          · exact fun z => .inl (by omega)
        rw [decide_eq_decide.mpr e2]
        exact LtW.diff (eq_int_f fun z => h (by omega)) rcLt_int
    | box w e b => exact absurd hr (by cases w <;> simp [rank])
  | box w d b =>
    cases q with
    | name y => exact absurd hr (by cases w <;> simp [rank])
    | got e => exact absurd hr (by cases w <;> simp [rank])
    | box w' e b' =>
      obtain ⟨t1, rfl⟩ := readsStr r1
      obtain ⟨t2, rfl⟩ := readsStr r2
      simp only [bodyOf] at r3 r4 ihb
      rw [good_box] at gp gq
      rw [dp_box] at hu
      by_cases h : d = e
      · subst h
        have e2 : restT (.box w d b) < restT (.box w' d b') ↔ toksL b < toksL b' := row_same _ _ _
        rw [decide_eq_decide.mpr e2]
        refine LtW.same (eq_str_t rfl) ?_
        have z := eqAt_reads _ _ A s _ _ _ _ r3 r4 (by rw [canLay_tuple]; exact keys_lay gp.2) (by rw [canLay_tuple]; exact keys_lay gq.2) (by
          rw [depth_tuple]
          have h1 := keys_depth b
          have h2 := Nat.min_le_left (PyData.depthAll (keysD b) + 1) (PyData.depth (.tuple (keysD b')))
          omega)
        rw [eqv_tuple, keys_eqv] at z
        by_cases hb : b = b'
        · rw [decide_eq_true hb] at z
          refine LtW.same z ?_
          exact decide_eq_false (by rw [hb]; exact List.lt_irrefl _)
        · rw [decide_eq_false hb] at z
          refine LtW.diff z ?_
          obtain ⟨ad, xs, e1, hl, ra2⟩ := readsTup r3
          obtain ⟨bd, ys, e3, hl', rb2⟩ := readsTup r4
          subst e1 e3
          rw [keysD_map] at ra2 rb2
          exact RcLt.tuples1 hl hl' (by omega) (keys_lt_of ihb b' _ _ A.in1 _ _ _ _ gp.2 gq.2 ra2 rb2 (by rw [in1_units]; omega))
      · have e2 : restT (.box w d b) < restT (.box w' e b') ↔ d < e := lab_row d e (toksL b) (toksL b') h
        rw [decide_eq_decide.mpr e2]
        exact LtW.diff (eq_str_f fun z => h (S_inj z)) rcLt_str
theorem key_lt : ∀ (p q : Pt) (n m : Nat) (A : Around) (u v : Value) (as bs : List Addr), Good n p → Good m q → Reads s.heap u (keyD p) as → Reads s.heap v (keyD q) bs → A.units + 3 * dp p + 3 < cLine → RcLt A s u v (decide (lt p q)) := by
  have go : ∀ p : Pt, (∀ q ∈ bodyOf p, ∀ (t : Pt) (n m : Nat) (A : Around) (u v : Value) (as bs : List Addr), Good n q.2 → Good m t → Reads s.heap u (keyD q.2) as → Reads s.heap v (keyD t) bs → A.units + 3 * dp q.2 + 3 < cLine → RcLt A s u v (decide (lt q.2 t))) →
      ∀ (q : Pt) (n m : Nat) (A : Around) (u v : Value) (as bs : List Addr), Good n p → Good m q → Reads s.heap u (keyD p) as → Reads s.heap v (keyD q) bs → A.units + 3 * dp p + 3 < cLine → RcLt A s u v (decide (lt p q)) := by
    intro p ih q n m A u v as bs gp gq ra rb hu
    rw [keyD_eq] at ra rb
    obtain ⟨ad, xs, e1, hl, ra2⟩ := readsTup ra
    obtain ⟨bd, ys, e3, hl', rb2⟩ := readsTup rb
    subst e1 e3
    exact RcLt.tuples1 hl hl' (by omega) (four_lt gp gq ra2 rb2 fun _ hr l1 l2 i1 i2 as bs cs ds r1 r2 r3 r4 => last_lt ih gp gq hr (by rw [in1_units]; omega) r1 r2 r3 r4)
  exact Pt.ind (fun x => go _ fun q hq => absurd hq (by simp [bodyOf])) (fun d => go _ fun q hq => absurd hq (by simp [bodyOf])) (fun w d b ih => go _ fun q hq => ih q hq)
end
end G6

set_option autoImplicit false
set_option Elab.async false
set_option linter.all false
set_option maxRecDepth 100000
set_option maxHeartbeats 4000000
/-! sorted(xs, key=f), f a function of the text that gives the parts' keys. -/
namespace G6
open PySem PySem.Spec PyProof.Rows L2 PySem.W
open PySem.SeqAt (EqAt RcLt)
/-! ### the kind of keys -/
noncomputable def ptKind (h : Heap) (ps : List Pt) : PyProof.Rows.KeyKind where
  α := Pt
  blt a b := decide (lt a b)
  irrefl a := decide_eq_false (lt_irrefl a)
  trans a b c h1 h2 := decide_eq_true (lt_trans (of_decide_eq_true h1) (of_decide_eq_true h2))
  negTrans a b c h := by
    by_cases h1 : lt a b
    · exact .inl (decide_eq_true h1)
    · refine .inr (decide_eq_true ?_)
      by_cases h2 : lt b c
      · exact h2
      · exact absurd (of_decide_eq_true h) (not_lt_trans h2 h1)
  total a b h1 h2 := lt_total (of_decide_eq_false h1) (of_decide_eq_false h2)
  keyOf v := open Classical in if q : ∃ p, p ∈ ps ∧ ∃ as, Reads h v (keyD p) as then some q.choose else none
  dflt := .got 0
theorem keyD_inj {p q : Pt} (h : keyD p = keyD q) : p = q := by
  have z := key_eqv p q
  rw [h, key_eqv, decide_eq_true rfl] at z
  exact of_decide_eq_true z.symm
theorem ptKind_some {h : Heap} {ps : List Pt} (hl : ∀ p ∈ ps, (keyD p).canLay0 = true) {v : Value} {p : Pt} {as : List Addr} (hp : p ∈ ps) (r : Reads h v (keyD p) as) : (ptKind h ps).keyOf v = some p := by
  have q : ∃ p, p ∈ ps ∧ ∃ as, Reads h v (keyD p) as := ⟨p, hp, as, r⟩
  have e : (ptKind h ps).keyOf v = some q.choose := by
    show (open Classical in if q : ∃ p, p ∈ ps ∧ ∃ as, Reads h v (keyD p) as then some q.choose else none) = _
    rw [dif_pos q]
  obtain ⟨h1, as', h2⟩ := q.choose_spec
  rw [e, keyD_inj (SeqAt.Reads.unique _ _ _ _ _ (hl _ h1) h2 r)]
theorem ptKind_inv {h : Heap} {ps : List Pt} {v : Value} {k : Pt} (e : (ptKind h ps).keyOf v = some k) : ∃ as, k ∈ ps ∧ Reads h v (keyD k) as := by
  by_cases q : ∃ p, p ∈ ps ∧ ∃ as, Reads h v (keyD p) as
  · have e' : (ptKind h ps).keyOf v = some q.choose := by
      show (open Classical in if q : ∃ p, p ∈ ps ∧ ∃ as, Reads h v (keyD p) as then some q.choose else none) = _
      rw [dif_pos q]
    obtain ⟨h1, as', h2⟩ := q.choose_spec
    rw [e'] at e
    cases e
    exact ⟨as', h1, h2⟩
  · have e' : (ptKind h ps).keyOf v = none := by
      show (open Classical in if q : ∃ p, p ∈ ps ∧ ∃ as, Reads h v (keyD p) as then some q.choose else none) = _
      rw [dif_neg q]
      rfl
    rw [e'] at e
    cases e
section
variable {prog : Program} {w : World} {A : Around} {s : Shared}
theorem katLex_of {Q : Bool → Shared → Prop} {k : Bool} : ∀ (vs ws : List Value) (i : Nat) (fin : Bool), LtW A s vs ws k → fin = decide (vs.length < ws.length) → Q k s → KatLex prog w A true fin Q (vs.zip ws) (i + 1) s
  | [], ws, i, fin, h, hf, hq => by
    have e := h.fin (by simp)
    rw [List.zip_nil_left]
    refine kat_nil ?_
    rw [hf, ← e]
    exact hq
  | v :: vs, [], i, fin, h, hf, hq => by
    have e := h.fin (by simp)
    rw [List.zip_nil_right]
    refine kat_nil ?_
    rw [hf, ← e]
    exact hq
  | v :: vs, w' :: ws, i, fin, h, hf, hq => by
    obtain ⟨e, he, hr⟩ := h
    rw [List.zip_cons_cons]
    refine kat_cons (he prog w _ _ ?_)
    cases e with
    | true =>
      rw [if_pos rfl] at hr
      exact kat_yes (katLex_of vs ws (i + 1) fin hr (by rw [hf]; simp) hq)
    | false =>
      rw [if_neg Bool.false_ne_true] at hr
      exact kat_no (kat_one _ _ (hr prog w _ _ hq))
theorem three_lt {p q : Pt} {us vs : List Value} {as bs : List Addr} (h1 : sz p = sz q) (ra : ReadsAll s.heap us [.int (rank p : Int), labD p, .tuple (keysD (bodyOf p))] as)
    (rb : ReadsAll s.heap vs [.int (rank q : Int), labD q, .tuple (keysD (bodyOf q))] bs)
    (last : rank p = rank q → ∀ (l1 l2 i1 i2 : Value) (as bs cs ds : List Addr), Reads s.heap l1 (labD p) as → Reads s.heap l2 (labD q) bs → Reads s.heap i1 (.tuple (keysD (bodyOf p))) cs → Reads s.heap i2 (.tuple (keysD (bodyOf q))) ds →
      LtW A s [l1, i1] [l2, i2] (decide (restT p < restT q))) : LtW A s us vs (decide (lt p q)) := by
  obtain ⟨u2, us, _, _, rfl, r2, ra⟩ := readsCons ra
  obtain ⟨u3, us, _, _, rfl, r3, ra⟩ := readsCons ra
  obtain ⟨u4, us, _, _, rfl, r4, ra⟩ := readsCons ra
  cases readsNil ra
  obtain ⟨v2, vs, _, _, rfl, k2, rb⟩ := readsCons rb
  obtain ⟨v3, vs, _, _, rfl, k3, rb⟩ := readsCons rb
  obtain ⟨v4, vs, _, _, rfl, k4, rb⟩ := readsCons rb
  cases readsNil rb
  obtain ⟨t2, rfl⟩ := readsInt r2
  obtain ⟨t4, rfl⟩ := readsInt k2
  by_cases h2 : rank p = rank q
  · have e : lt p q ↔ restT p < restT q := by rw [lt_split, if_pos h1, if_pos h2]
    rw [decide_eq_decide.mpr e]
    exact LtW.same (eq_int_t (by rw [h2])) (last h2 _ _ _ _ _ _ _ _ r3 k3 r4 k4)
  · have e : lt p q ↔ (rank p : Int) < (rank q : Int) := by
      rw [lt_split, if_pos h1, if_neg h2]
      omega
    rw [decide_eq_decide.mpr e]
    exact LtW.diff (eq_int_f fun z => h2 (by omega)) rcLt_int
theorem keyLt_key {p q : Pt} {n m : Nat} {u v : Value} {as bs : List Addr} {E : Value → Shared → Prop} {Q : Bool → Shared → Prop} (gp : Good n p) (gq : Good m q) (ra : Reads s.heap u (keyD p) as) (rb : Reads s.heap v (keyD q) bs)
    (hu : A.units + 3 * dp p + 3 < cLine) (hq : Q (decide (lt p q)) s) : wpAny (model prog w) A (keyLt' (tuples' true) u v) Q E s := by
  rw [keyD_eq] at ra rb
  cases ra with
  | @tuple l o xs n1 _ _ h1 h2 h3 h4 =>
    cases rb with
    | @tuple l' o' xs' n2 _ _ k1 k2 k3 k4 =>
      obtain ⟨u1, us, _, _, e1, r1, ra⟩ := readsCons h4
      obtain ⟨v1, vs, _, _, e2, r2, rb⟩ := readsCons k4
      obtain ⟨t1, rfl⟩ := readsInt r1
      obtain ⟨t2, rfl⟩ := readsInt r2
      have l1 : xs.toList.length = 4 := SeqAt.ReadsAll.length _ _ _ h4
      have l2 : xs'.toList.length = 4 := SeqAt.ReadsAll.length _ _ _ k4
      have l3 : us.length = 3 := by rw [e1, List.length_cons] at l1; omega
      have l4 : vs.length = 3 := by rw [e2, List.length_cons] at l2; omega
      refine kat_lt h1 h3 k1 k3 ?_
      have hf : decide (xs.size < xs'.size) = decide (us.length < vs.length) := by
        rw [← Array.length_toList, ← Array.length_toList, l1, l2, l3, l4]
        rfl
      rw [e1, e2, hf, List.zip_cons_cons]
      by_cases hs : sz p = sz q
      · refine kat_cons (eq_int_t (by rw [hs]) prog w _ _ ?_)
        refine kat_yes (katLex_of us vs 0 _ (three_lt hs ra rb fun hr l1 l2 i1 i2 as bs cs ds r1 r2 r3 r4 => ?_) rfl hq)
        exact last_lt (fun q _ t n m A u v as bs => key_lt q.2 t n m A u v as bs) gp gq hr (by omega) r1 r2 r3 r4
      · refine kat_cons (eq_int_f (fun z => hs (by omega)) prog w _ _ ?_)
        have e : lt p q ↔ (sz p : Int) < (sz q : Int) := by
          rw [lt_split, if_neg hs]
          omega
        rw [decide_eq_decide.mpr e] at hq
        exact kat_no (oneLt_int hq)
/-- values that read as keys can be sorted -/
theorem sortsKeys {vs : List Value} {ps : List Pt} {n : Nat} {D : Nat} (e : EachIs (fun v p => ∃ as, Reads s.heap v (keyD p) as) vs ps) (hg : ∀ p ∈ ps, Good n p ∧ dp p ≤ D) (hu : A.units + 3 * D + 3 < cLine) : SortsAt prog w A s (ptKind s.heap ps) vs := by
  have hl : ∀ p ∈ ps, (keyD p).canLay0 = true := fun p hp => key_lay p n (hg p hp).1
  refine ⟨fun v hv => ?_, tuples' true, fun E x y a b Q ha hb hq => ?_, fun h2 E Q hq => ?_⟩
  · obtain ⟨p, hp, as, r⟩ := e.left v hv
    exact ⟨_, ptKind_some hl hp r⟩
  · obtain ⟨as, m1, r1⟩ := ptKind_inv ha
    obtain ⟨bs, m2, r2⟩ := ptKind_inv hb
    have := (hg a m1).2
    exact keyLt_key (hg a m1).1 (hg b m2).1 r1 r2 (by omega) hq
  · have e2 : EachIs (fun v d => ∃ as, Reads s.heap v d as) vs (ps.map keyD) := each_map (R := fun v d => ∃ as, Reads s.heap v d as) keyD e
    obtain ⟨fs, t1, t2, t3⟩ := each_katTups e2 fun d hd => by
      obtain ⟨p, _, rfl⟩ := List.mem_map.mp hd
      exact ⟨_, _, keyD_eq p⟩
    have hT : (Value.type "int" != Value.type "tuple") = true := by decide
    refine kat_kind (T := .type "int") t1 (by omega) (fun f hf => ?_) (beq_self_eq_true _) (by rw [hT]; exact hq)
    obtain ⟨x, r, as, m1, m2⟩ := t3 f hf
    obtain ⟨p, _, ep⟩ := List.mem_map.mp m1
    rw [keyD_eq] at ep
    injection ep with ep
    injection ep with ep _
    rw [← ep] at m2
    exact looks_reads m2
end
end G6

set_option autoImplicit false
set_option Elab.async false
set_option linter.all false
set_option maxRecDepth 100000
set_option maxHeartbeats 4000000
/-! sorted(xs, key=f) in a def's frame. -/
namespace G6
open PySem PySem.Spec PySem.Calls PyProof.Rows L2 PySem.W
theorem each_lift {F : V → Nat × Pt → Prop} : ∀ {out : List Value} {bs : Pl}, EachIs (fun u q => ∃ x, RelV x u ∧ F x q) out bs → ∃ ys : List V, Vals ys out ∧ EachIs F ys bs
  | _, _, .nil => ⟨[], .nil, .nil⟩
  | _, _, .cons ⟨x, r, f⟩ t => by
    obtain ⟨ys, h1, h2⟩ := each_lift t
    exact ⟨x :: ys, .cons r h1, .cons f h2⟩
theorem each_items {K : PySem.W.Frag} {H : Hp} : ∀ {ys : List V} {bs : Pl}, EachIs (fun x q => ItemV K H x q) ys bs → ItemsV K H ys bs
  | _, _, .nil => .nil
  | _, _, .cons h t => .cons h (each_items t)
theorem items_each {K : PySem.W.Frag} {H : Hp} : ∀ {xs : List V} {us : List Value} {bs : Pl}, Vals xs us → ItemsV K H xs bs → EachIs (fun u q => ∃ x, RelV x u ∧ ItemV K H x q) us bs
  | [], [], [], _, _ => .nil
  | [], [], _ :: _, _, h => by cases h
  | _ :: _, _, [], _, h => by cases h
  | [], _ :: _, _, r, _ => by cases r
  | _ :: _, [], _ :: _, r, _ => by cases r
  | x :: xs, u :: us, q :: bs, r, h => by
    cases r with
    | cons r1 r2 =>
      cases h with
      | cons h1 h2 => exact .cons ⟨x, r1, h1⟩ (items_each r2 h2)
theorem tpAll_snoc {K : PySem.W.Frag} {H : Hp} {ws : List V} {ds : List PyData} {w : V} {d : PyData} (h : TpAll K H ws ds) (h1 : Tp K H w d) : TpAll K H (ws ++ [w]) (ds ++ [d]) := TpAll.append h (.cons h1 .nil)
section
variable {X : Cx} {pins : List (Addr × Obj)} {σ : L2.St} {H : Hp} {s : Shared} {T : List NdefX.NTab} {n D : Nat}
/-- f's calls: each gives its item's key -/
def KeyFn (X : Cx) (T : List NdefX.NTab) (pins0 : List (Addr × Obj)) (σ : L2.St) (H : Hp) (b : Pl) (f : Value) : Prop :=
  ∀ (pins : List (Addr × Obj)) (s : Shared) (H' : Hp) (x : V) (u : Value) (q : Nat × Pt), (∀ p ∈ pins0, p ∈ pins) → Inv X pins σ H' s → Gr T none H H' → q ∈ b → ItemV X.K H' x q → RelV x u →
    wpAny (model X.prog X.w) X.A.in1.in1 (call f [u]) (fun v s' => ∃ H'' w, Inv X pins σ H'' s' ∧ RelV w v ∧ Gr T none H' H'' ∧ Tp X.K H'' w (keyD q.2)) (fun _ _ => False) s
theorem keys_rest {a kS : Addr} {e1 : Nat} {f : Value} {xs : List V} {vs : List Value} {b : Pl} {s1 : Shared} {H1 : Hp} {P : PySem.Fin → Shared → Prop} {E : Value → Shared → Prop} (I : Inv X pins σ H1 s1) (g : Gr T none H H1) (fa : FpOk X pins H1 a) (fk : FpOk X pins H1 kS)
    (hka : kS ≠ a) (nk : s1.heap.get? kS = some (seqObj "list" #[] 0)) (na : s1.heap.get? a = some (seqObj "list" #[] e1)) (rv : Vals xs vs) (hx : ItemsV X.K H xs b) (hZ : vs.length ≤ sizeLine) (hg : ∀ q ∈ b, Good n q.2 ∧ dp q.2 ≤ D) (hu : X.A.in1.in1.units + 3 * D + 3 < cLine)
    (turn : KeyFn X T pins σ H b f)
    (done : ∀ (s' : Shared) (out : List Value) (c : Nat) (H' : Hp), Inv X pins σ H' s' → Gr T none H H' → FpOk X pins H' a → s'.heap.get? a = some (seqObj "list" out.toArray c) → EachIs (fun u q => ∃ x, RelV x u ∧ ItemV X.K H x q) out (b.mergeSort leP) → P (.done (.ret .none)) s') :
    wpAny (model X.prog X.w) X.A.in1.in1 (ksk_rest a f false vs.toArray e1 (.ref kS)) P E s1 := by
  have lv : xs.length = vs.length := rv.length
  have lb : xs.length = b.length := hx.len
  unfold ksk_rest
  refine wpAny_bind (wpAny_rule ?_)
  first
    | rw [List.forIn_toArray]
    | (rw [← Array.forIn_toList]; simp only [List.toList_toArray])
    | rw [← Array.forIn_toList]
  refine wpAny_bind (ksk_fold (fun i s' => ∃ (H' : Hp) (kA : Array Value) (c : Nat) (wks : List V), Inv X pins σ H' s' ∧ Gr T none H H' ∧ FpOk X pins H' a ∧ FpOk X pins H' kS ∧ s'.heap.get? kS = some (seqObj "list" kA c) ∧ s'.heap.get? a = some (seqObj "list" #[] e1) ∧
    Vals wks kA.toList ∧ TpAll X.K H' wks ((b.take i).map fun q => keyD q.2)) vs 0 s1 ⟨H1, #[], 0, [], I, g, fa, fk, nk, na, .nil, by rw [List.take_zero]; exact .nil⟩ ?step ?done)
  case step =>
    rintro j u s' hxu ⟨H', kA, c, wks, I', g', fa', fk', nk', na', rk, hk⟩
    simp only [Nat.zero_add] at hk ⊢
    have hj : j < vs.length := (List.getElem?_eq_some_iff.mp hxu).1
    have hjb : j < b.length := by omega
    obtain ⟨q, hq⟩ : ∃ q, b[j]? = some q := ⟨_, List.getElem?_eq_getElem hjb⟩
    obtain ⟨x, hxj, hit⟩ := hx.get hq
    obtain ⟨u', hu', rx⟩ := rv.get hxj
    rw [hxu] at hu'
    cases hu'
    have hqm : q ∈ b := List.mem_of_getElem? hq
    have Ip : Inv X (pins ++ [(a, seqObj "list" #[] e1), (kS, seqObj "list" kA c)]) σ H' s' := I'.pins_of fun p hp => by
      rcases List.mem_append.mp hp with z | z
      · exact I'.pin p (List.mem_append_right _ z)
      · simp only [List.mem_cons, List.not_mem_nil, or_false] at z
        rcases z with rfl | rfl
        · exact ⟨na', fa'.1, fa'.2.1, fa'.2.2.1, fun v z => by cases z⟩
        · exact ⟨nk', fk'.1, fk'.2.1, fk'.2.2.1, fun v z => by cases z⟩
    refine wpAny_bind (wpAny_attempt (wpAny_mono (turn _ s' H' x u q (fun p hp => List.mem_append_left _ hp) Ip g' hqm (g'.tp hit) rx) (fun v s'' hh => ?_) fun _ _ hF => hF.elim))
    obtain ⟨H'', w, I'', rw_, g'', hw⟩ := hh
    try dsimp only
    have pa := I''.pin (a, seqObj "list" #[] e1) (List.mem_append_right _ (List.mem_append_right _ (List.mem_cons_self ..)))
    have pk := I''.pin (kS, seqObj "list" kA c) (List.mem_append_right _ (List.mem_append_right _ (List.mem_cons_of_mem _ (List.mem_cons_self ..))))
    have Iu := I''.unpinned
    have fa2 : FpOk X pins H'' a := ⟨pa.2.1, fa'.2⟩
    have fk2 : FpOk X pins H'' kS := ⟨pk.2.1, fk'.2⟩
    have hz : kA.size ≤ vs.length := by
      have h1 : wks.length = kA.toList.length := rk.length
      have h2 : wks.length = ((b.take j).map fun q => keyD q.2).length := hk.length
      rw [List.length_map, List.length_take] at h2
      have h3 : kA.toList.length = kA.size := Array.length_toList
      omega
    have s1' := Heap.SameBut.update s''.heap kS (Obj.mapSeq (·.push v))
    obtain ⟨c2, hc2⟩ : ∃ c2, (s''.heap.update kS (Obj.mapSeq (·.push v))).get? kS = some (seqObj "list" (kA.push v) c2) := ⟨_, get?_update_seq pk.1 (·.push v)⟩
    have ek : (b.take (j + 1)).map (fun q => keyD q.2) = (b.take j).map (fun q => keyD q.2) ++ [keyD q.2] := by
      rw [List.take_add_one, hq]
      simp
    refine wpAny_bind (listUpdate_at pk.1 rfl ?_ (Nat.le_trans hz hZ) (Nat.le_trans (Nat.le_of_eq (Array.size_push ..)) (Nat.succ_le_succ (Nat.le_trans hz hZ))))
    refine wpAny_pure ⟨rfl, H'', kA.push v, c2, wks ++ [w], ?_, g'.trans g'', fa2, fk2, hc2, (s1'.2 a hka.symm).trans pa.1, ?_, ?_⟩
    · exact Iu.turnedL (t' := s''.toks) (ch := [kS]) (fun b o hb e => (s1'.2 b (fun z => hb (by simp [z]))).trans e) fun b hb => by
        have e : b = kS := by simpa using hb
        rw [e]
        exact fk2
    · rw [Array.toList_push]
      exact rk.append (.cons rw_ .nil)
    · rw [ek]
      exact tpAll_snoc (g''.tpAll hk) hw
  case done =>
    rintro s' ⟨H', kA, c, wks, I', g', fa', fk', nk', na', rk, hk⟩
    have e3 : b.take (0 + vs.length) = b := List.take_of_length_le (by omega)
    rw [e3] at hk
    have hsz : kA.size = vs.length := by
      have h1 : wks.length = kA.toList.length := rk.length
      have h2 : wks.length = (b.map fun q => keyD q.2).length := hk.length
      rw [List.length_map] at h2
      have h3 : kA.toList.length = kA.size := Array.length_toList
      omega
    obtain ⟨as, hr⟩ := Dp.readsAll I' _ _ _ (TpAll.dp _ _ hk) rk
    have er : EachIs (fun v p => ∃ as, Reads s'.heap v (keyD p) as) kA.toList (b.map (·.2)) := readsAll_each keyD (by rw [List.map_map]; exact hr)
    have hgp : ∀ p ∈ b.map (·.2), Good n p ∧ dp p ≤ D := fun p hp => by
      obtain ⟨q, hq, rfl⟩ := List.mem_map.mp hp
      exact hg q hq
    have S := sortsKeys (prog := X.prog) (w := X.w) (A := X.A.in1.in1) (s := s') er hgp hu
    have ekey : EachIs (fun v q => (ptKind s'.heap (b.map (·.2))).keyOf v = some q.2) kA.toList b :=
      each_of_map (R := fun v p => (ptKind s'.heap (b.map (·.2))).keyOf v = some p) (fun q : Nat × Pt => q.2) ((each_mem er).mono fun v p ⟨⟨as, r⟩, hp⟩ => ptKind_some (fun p hp => key_lay p n (hgp p hp).1) hp r)
    have eout : EachIs (fun u q => ∃ x, RelV x u ∧ ItemV X.K H x q) (sortVals (ptKind s'.heap (b.map (·.2))) false kA.toList vs) (b.mergeSort leP) :=
      sortVals_each (κ := ptKind s'.heap (b.map (·.2))) (fun q : Nat × Pt => q.2) (items_each rv hx) ekey
    try dsimp only
    refine wpAny_bind (listItems_at nk' rfl ?_)
    refine keyH_end (κ := ptKind s'.heap (b.map (·.2))) (h₁ := hideAll s'.heap [kS]) (fun b o hb e => of_hideAll _ e) (hideAll_none _ (by simp)) nk' na' hka S hsz hZ fun h3 tk3 c k3 n3 => ?_
    refine done { s' with heap := h3, toks := tk3 } _ c H' ?_ g' fa' n3 eout
    refine I'.turnedL (t' := tk3) (ch := [a, kS]) (fun b o hb e => ?_) fun b hb => ?_
    · have h1 : b ≠ a := fun z => hb (by simp [z])
      have h2 : b ≠ kS := fun z => hb (by simp [z])
      exact k3 b o h1 (hideAll_get _ e (by simpa using h2))
    · simp only [List.mem_cons, List.not_mem_nil, or_false] at hb
      rcases hb with rfl | rfl
      · exact fa'
      · exact fk'
theorem sortK_run {l fA : Addr} {xs : List V} {b : Pl} {Q : VK} (I : Inv X pins σ H s) (hs : SqL X.K H l xs) (hx : ItemsV X.K H xs b) (hg : ∀ q ∈ b, Good n q.2 ∧ dp q.2 ≤ D) (hu : X.A.in1.in1.units + 3 * D + 3 < cLine) (turn : KeyFn X T pins σ H b (.ref fA))
    (q : ∀ (p : Addr) (ys : List V) (H' : Hp), H p = none → Gr T none H H' → ItemsV X.K H' ys (b.mergeSort leP) → H' p = some (.lst ys) → Q (.ref p) H') :
    wpAny (model X.prog X.w) X.A (call (.builtin "sorted") [.ref l] [(Str.ofString "key", .ref fA)]) (EP X pins σ Q) X.xe s := by
  obtain ⟨vs, rv, hl, hz⟩ := I.list hs
  have hZ : vs.length ≤ sizeLine := by rw [← rv.length]; exact hz
  refine sorted_of_sort hl.isList hZ (ksk_s1 _ _) (fun _ => ksk_l1 _ _) fun E' => ?_
  rw [ksk_t1]
  have I1 : Inv X pins σ H { s with heap := copyHeap s.heap vs } := I.kept (t' := s.toks) fun b u e => copyHeap_old e
  have hn : H (s.heap.objs.size + 1) = none := I.hok.fresh (Nat.le_succ _)
  have fa : FpOk X pins H (s.heap.objs.size + 1) := I.fpOk (Nat.le_succ _) hn
  have ho := copyHeap_at s.heap vs
  generalize hs1 : ({ s with heap := copyHeap s.heap vs } : Shared) = s1 at I1 ⊢
  have ho' : s1.heap.get? (s.heap.objs.size + 1) = some (seqObj "list" vs.toArray 0) := by rw [← hs1]; exact ho
  have hle : s.heap.objs.size + 1 < s1.heap.objs.size := Heap.lt_size ho'
  obtain ⟨e1, ho1⟩ : ∃ e1, (s1.heap.update (s.heap.objs.size + 1) (Obj.mapSeq fun _ => (#[] : Array Value))).get? (s.heap.objs.size + 1) = some (seqObj "list" #[] e1) := ⟨_, get?_update_seq ho' fun _ => #[]⟩
  have hkS : ((s1.heap.update (s.heap.objs.size + 1) (Obj.mapSeq fun _ => (#[] : Array Value))).push (seqObj "tuple" vs.toArray 0)).objs.size = s1.heap.objs.size + 1 := by rw [size_push', Heap.size_update]
  unfold ksk_tree
  refine wpAny_bind (listItems_at ho' rfl ?_)
  refine wpAny_bind (listUpdate_at ho' rfl ?_ (by rw [List.size_toArray]; exact hZ) (Nat.zero_le _))
  refine wpAny_bind (seqEpoch_at ho1 rfl ?_)
  refine wpAny_bind (wpAny_newTuple ?_ (by show vs.length ≤ _; exact hZ))
  refine wpAny_bind (wpAny_newList ?_ (Nat.zero_le _))
  refine wpAny_holding ?_
  have I2 : Inv X pins σ H { s1 with heap := ((s1.heap.update (s.heap.objs.size + 1) (Obj.mapSeq fun _ => (#[] : Array Value))).push (seqObj "tuple" vs.toArray 0)).push (seqObj "list" #[] 0) } :=
    I1.turnedL (t' := s1.toks) (ch := [s.heap.objs.size + 1]) (fun b o hb e => sortingHeap_old (fun z => hb (by simp [z])) e) fun b hb => by
      have e : b = s.heap.objs.size + 1 := by simpa using hb
      rw [e]
      exact fa
  have hnk : H ((s1.heap.update (s.heap.objs.size + 1) (Obj.mapSeq fun _ => (#[] : Array Value))).push (seqObj "tuple" vs.toArray 0)).objs.size = none := I1.hok.fresh (by rw [hkS]; exact Nat.le_succ _)
  have hne : ((s1.heap.update (s.heap.objs.size + 1) (Obj.mapSeq fun _ => (#[] : Array Value))).push (seqObj "tuple" vs.toArray 0)).objs.size ≠ s.heap.objs.size + 1 := by
    rw [hkS]
    exact Nat.ne_of_gt (Nat.lt_succ_of_lt hle)
  refine keys_rest (n := n) (D := D) (T := T) (H := H) I2 (Gr.refl H) fa (I1.fpOk (by rw [hkS]; exact Nat.le_succ _) hnk) hne (Heap.get?_push_size _ rfl) (Heap.get?_push_of_some _ (Heap.get?_push_of_some _ ho1)) rv hx hZ hg hu turn fun s' out c H' I' g' fa' ha' eo => ⟨rfl, ?_⟩
  obtain ⟨ys, r1, r2⟩ := each_lift eo
  have hi := each_items r2
  have gn : Gr T none H' (upd H' (s.heap.objs.size + 1) (.lst ys)) := gr_new fa'.1
  have hlen : ys.length ≤ sizeLine := by
    have h1 := hi.len
    have h2 := hx.len
    rw [List.length_mergeSort] at h1
    omega
  refine ⟨.ref (s.heap.objs.size + 1), upd H' (s.heap.objs.size + 1) (.lst ys), ?_, rfl, q _ ys _ hn (g'.trans gn) ((g'.trans gn).tpAll hi) upd_same⟩
  exact I'.take (h' := s'.heap) (t' := s'.toks) (fun b ob _ e => e) fa' ⟨hlen, out, c, r1, ha'⟩
end
end G6

set_option autoImplicit false
set_option Elab.async false
set_option linter.all false
/-! Plans that fit: good, few nodes, a size that a whole number of 64 bits holds. -/
namespace G6
structure FitL (n : Nat) (b : Pl) : Prop where
  good : GoodL n b
  nd : ndL b ≤ 4000
  sz : szL b < 2 ^ 64
structure FitP (n : Nat) (p : Pt) : Prop where
  good : Good n p
  nd : nd p ≤ 4000
  sz : sz p < 2 ^ 64
theorem sz_le_szL {b : Pl} {q : Nat × Pt} (h : q ∈ b) : q.1 * sz q.2 ≤ szL b := by
  induction b with
  | nil => cases h
  | cons x b ih =>
    obtain ⟨c, p⟩ := x
    rw [szL_cons]
    rcases List.mem_cons.mp h with e | e
    · rw [e]
      exact Nat.le_add_right _ _
    · exact Nat.le_trans (ih e) (Nat.le_add_left _ _)
theorem goodL_sz {n : Nat} {b : Pl} (g : GoodL n b) {q : Nat × Pt} (h : q ∈ b) : sz q.2 ≤ szL b := by
  have h1 := ((goodL_iff _ _).mp g q h).1
  have h2 := sz_le_szL h
  exact Nat.le_trans (Nat.le_mul_of_pos_left _ h1) h2
theorem szL_cnt {b : Pl} {q : Nat × Pt} (h : q ∈ b) : q.1 ≤ szL b := Nat.le_trans (Nat.le_mul_of_pos_right _ (sz_pos q.2)) (sz_le_szL h)
section
variable {n : Nat} {b : Pl} {p : Pt}
theorem FitL.mem (f : FitL n b) {q : Nat × Pt} (h : q ∈ b) : FitP n q.2 :=
  ⟨((goodL_iff _ _).mp f.good q h).2, Nat.le_trans (ndL_mem h) f.nd, Nat.lt_of_le_of_lt (goodL_sz f.good h) f.sz⟩
theorem FitL.pos (f : FitL n b) {q : Nat × Pt} (h : q ∈ b) : 1 ≤ q.1 := ((goodL_iff _ _).mp f.good q h).1
theorem FitL.cnt (f : FitL n b) {q : Nat × Pt} (h : q ∈ b) : q.1 < 2 ^ 64 := Nat.lt_of_le_of_lt (szL_cnt h) f.sz
theorem FitL.len (f : FitL n b) : b.length ≤ 4000 := Nat.le_trans (ndL_len b) f.nd
theorem FitP.body {w : Bool} {d : List Nat} (f : FitP n (.box w d b)) : okLab d ∧ FitL (if w = true then n + 1 else n) b := by
  obtain ⟨g, h1, h2⟩ := f
  rw [good_box] at g
  rw [nd_box] at h1
  rw [sz_box] at h2
  exact ⟨g.1, g.2, by omega, by omega⟩
theorem FitL.plain (f : FitL n b) : FitL n (plainOf b) := ⟨goodL_plain f.good, Nat.le_trans (ndL_plain f.good).1 f.nd, by rw [szL_plain f.good]; exact f.sz⟩
end
end G6

set_option autoImplicit false
set_option Elab.async false
set_option linter.all false
set_option maxRecDepth 100000
set_option maxHeartbeats 4000000
/-! sorted(e, key=lambda item: ..) in a def's body. -/
namespace G6
open PySem PySem.Spec PySem.Calls PyProof.Rows L2 PySem.W LamX NdefX
/-- the tables that tell one name each -/
def nT (T : List (Addr × Str)) : List NdefX.NTab := T.map fun p => (p.1, fun _ _ => p.2)
theorem tabs_of {T : List (Addr × Str)} {H : Hp} (h : TabsN (nT T) H) : Tabs T H := fun p hp => TabN.to (h (p.1, fun _ _ => p.2) (List.mem_map.mpr ⟨p, hp, rfl⟩))
theorem of_tabs {T : List (Addr × Str)} {H : Hp} (h : Tabs T H) : TabsN (nT T) H := fun p hp => by
  obtain ⟨q, hq, rfl⟩ := List.mem_map.mp hp
  exact TabN.of (h q hq)
/-- a part's key -/
def spKey (T : List NdefX.NTab) (K : PySem.W.Frag) (D : Nat) : Sp := fun vs H Q _ => ∃ (v : V) (p : Pt) (n : Nat), vs = [v] ∧ PartV K H v p ∧ FitP n p ∧ dp p ≤ D ∧ ∀ (u : V) (H' : Hp), Gr T none H H' → Tp K H' u (keyD p) → Q u H'
/-- the lambda as the frames name it -/
def lamF (qual : Str) (params : Arguments) (scope : Scope) (c' : Addr) : NF := ⟨"<lambda>", qual, params, [], scope, [], c'⟩
theorem clo_nil {cells : List (Str × Addr)} {names : List (Str × NameKind)} (h : ∀ y ∈ names, y.2 ≠ .free) : cloFrom cells names [] = [] := by
  refine List.eq_nil_iff_forall_not_mem.mpr fun y hy => ?_
  obtain ⟨m, c⟩ := y
  rcases cloFrom_mem hy with z | ⟨z, _⟩
  · cases z
  · exact h _ z rfl
section
variable {X : Cx} {T' : List (Addr × Str)} {D n : Nat}
/-- what the sort gives: v holds items, all good, of a bounded depth -/
def tSortL (X : Cx) (T : List NdefX.NTab) (D : Nat) (te : TE) : TE := fun σ H Q => te σ H fun v H1 => ∃ (l : Addr) (xs : List V) (b : Pl) (n : Nat), v = .ref l ∧ SqL X.K H1 l xs ∧ ItemsV X.K H1 xs b ∧ (∀ q ∈ b, FitP n q.2 ∧ dp q.2 ≤ D) ∧ TabsN T H1 ∧ Gr T none X.H_0 H1 ∧
  ∀ (p : Addr) (ys : List V) (H2 : Hp), Gr T none X.H_0 H2 → ExtN H1 H2 → (∀ a l, H1 a = some (.lst l) → a ≠ p) → ItemsV X.K H2 ys (b.mergeSort leP) → H2 p = some (.lst ys) → Q (.ref p) H2
/-- the tables stay tables -/
theorem gr_lam {H H2 : Hp} {pins : List (Addr × Obj)} {σ : L2.St} {s : Shared} (I : Inv X pins σ H2 s) (g : Gr (nT T') none X.H_0 H) (e : ExtN H H2) (t : Tabs T' H2) : Gr (nT T') none X.H_0 H2 := by
  refine ⟨fun b o h n1 n2 => e b o (g.keep b o h n1 n2) n2, fun _ => of_tabs t, fun b hb => ?_⟩
  cases q : X.H_0 b with
  | none => rfl
  | some o =>
    by_cases ho : ∃ ps, o = .tbl ps
    · obtain ⟨ps, rfl⟩ := ho
      obtain ⟨more, z⟩ := I.base.tbls b ps q
      rw [hb] at z
      cases z
    · have n2 : ∀ ps, o ≠ .tbl ps := fun ps z => ho ⟨ps, z⟩
      have z := e b o (g.keep b o q (fun z => nomatch z) n2) n2
      rw [hb] at z
      cases z
theorem pe_sortLam {c P : Addr} {e : Expr} {te : TE} {params : Arguments} {body : Expr} {scope : Scope} {lpos kpos p pos : PySem.Pos} {N : List Str} {xk : Str} {k : Nat} (hg : Gl X "sorted") (hm : X.mg "sorted" = none) (he : PA X [e] (tCons te tNil))
    (TB : TabB X.base X.mg c P) (hcode : X.env.code = .ref c) (hmT : (P, X.env.qual ++ "<lambda>") ∈ T') (hu : ∀ p ∈ T', p.1 = P → p.2 = X.env.qual ++ "<lambda>") (hstk : ∀ b, b ∉ frs X.stack → b ≠ X.env.locals ∧ b ∉ X.fs)
    (hr : Room (k + 3) X.A) (hD : 3 * D ≤ 16 * k + 150) (hdef : defaultsOf params X.env = ([], [])) (S : NScope N [xk] [] scope) (hnf : ∀ y ∈ scope.names, y.2 ≠ .free)
    (hbind : ∀ (q : Str) (cl : List (Str × Addr)) (pm cv ctv u : Value), bindArgs (PySem.W.kla_fn "<lambda>" q params body scope cl pm cv ctv) ⟨[u], []⟩ = pure [(xk, u)])
    (hbody : ∀ (A : Around) (outer : List Env) (s : Shared) (H : Hp) (f c' : Addr), Room k (A.deeper (envF (lamF (X.env.qual ++ "<lambda>") params scope c') f s.heap.objs.size)) →
      PE (ncx C8.CX0 X.prog X.w X.K X.mg X.base N (lamF (X.env.qual ++ "<lambda>") params scope c') f A outer s H C8.E0) body (tCall (spKey (nT T') X.K D) [] C8.E0 (tCons (tOp (rIxT X.K) (tVar 0) (tC (.int 1))) tNil)))
    (hst : backTo pos (starEach [e] X.env) = (false, eval e X.env) :: backTo pos (starEach [] X.env) := by rfl) (hpl : (backTo pos (starEach [e] X.env)).any (·.1) = false := by rfl) :
    PE X (.Call (.Name "sorted" p) [e] [⟨some "key", .Lambda params body scope lpos, kpos⟩] pos) (tSortL X (nT T') D te) := by
  refine ⟨fun pins s σ H Q I h => ?_⟩
  refine wpAny_Call_Name_kw (ld_blt I hg hm (by decide +kernel : bootBuiltins "sorted" = some (.builtin "sorted")) ?_ (by decide) (by decide))
  refine PyProof.Rows.callWith_kw (thn (he.run pos pins s σ H (fun vs H1 => match vs with
    | [v] => ∃ (l : Addr) (xs : List V) (b : Pl) (n : Nat), v = .ref l ∧ SqL X.K H1 l xs ∧ ItemsV X.K H1 xs b ∧ (∀ q ∈ b, FitP n q.2 ∧ dp q.2 ≤ D) ∧ TabsN (nT T') H1 ∧ Gr (nT T') none X.H_0 H1 ∧
      ∀ (p : Addr) (ys : List V) (H2 : Hp), Gr (nT T') none X.H_0 H2 → ExtN H1 H2 → (∀ a l, H1 a = some (.lst l) → a ≠ p) → ItemsV X.K H2 ys (b.mergeSort leP) → H2 p = some (.lst ys) → Q (.ref p) H2
    | _ => False) I h) fun us s1 hh => ?_) hst hpl (by rfl) (by rfl)
  obtain ⟨vs, H1, I1, r1, hh⟩ := hh
  split at hh
  case h_2 => exact hh.elim
  rename_i v
  obtain ⟨l, xs, b, n, rfl, hs, hx, hgd, hT, hgr, hq⟩ := hh
  obtain rfl := Vals.ref1 r1
  have hcl : cloFrom X.env.cells scope.names [] = [] := clo_nil hnf
  show wpAny _ _ (evalAll ((do let v ← eval (.Lambda params body scope lpos) X.env; standAt pos; pure v) :: [])) _ _ s1
  refine wpAny_evalAll_cons (wpAny_bind (lam_make2 I1 TB hcode hmT hu (tabs_of hT) hdef (fun y hy z => absurd z (hnf y hy)) fun f c' pm ctv H2 s2 I2 eN T2 of1 hfn hfr hco => wpAny_bind (wpAny_standAt (wpAny_pure (wpAny_evalAll_nil ?_)))))
  rw [hcl] at of1
  obtain ⟨hf1, hf2⟩ := hstk f hfr
  have I3 : Inv X (pins ++ [(f, PySem.W.kla_obj "<lambda>" (X.env.qual ++ "<lambda>") params body scope [] pm c' ctv)]) σ H2 s2 := I2.pins_of fun q hq => by
    rcases List.mem_append.mp hq with z | z
    · exact I2.pin q (List.mem_append_right _ z)
    · have e : q = (f, PySem.W.kla_obj "<lambda>" (X.env.qual ++ "<lambda>") params body scope [] pm c' ctv) := by simpa using z
      rw [e]
      exact ⟨of1, hfn, hf1, hf2, fun v z => by cases z⟩
  have g2 := gr_lam I2 hgr eN T2
  have kS : ∀ {a : Addr} {ys : List V}, SqT X.K H1 a ys → SqT X.K H2 a ys := fun {a ys} z => by
    rcases z with (z | ⟨o, z⟩) | z
    · exact .inl (.inl (eN _ _ z fun ps q => by cases q))
    · exact .inl (.inr ⟨o, eN _ _ z fun ps q => by cases q⟩)
    · exact .inr z
  have hs2 : SqL X.K H2 l xs := by
    rcases hs with (z | ⟨o, z⟩) | z
    · exact .inl (.inl (eN _ _ z fun ps q => by cases q))
    · exact .inl (.inr ⟨o, eN _ _ z fun ps q => by cases q⟩)
    · exact .inr z
  have hr2 : Room (k + 1) X.A.in1.in1 := (hr.in1 (k := k + 2)).in1
  refine wpAny_mono (sortK_run (n := n) (D := D) (T := nT T') I3 hs2 (TpAll.ext (fun a ys z => kS z) _ _ hx) (fun q hq => ⟨(hgd q hq).1.good, (hgd q hq).2⟩) (by have := hr2.un; omega) ?_ fun p ys H3 hpn g3 hi hp => hq p ys H3 (g2.trans g3) (fun a o z nz => g3.keep a o (eN a o z nz) (fun z => nomatch z) nz) (fun a l z e => by rw [e] at z; rw [eN p _ z fun ps q => by cases q] at hpn; cases hpn) hi hp) (fun u s3 hh => ?_) fun e s3 x => x
  · intro pins' s' H' x u q hpin I' g' hqb hit rx
    have of2 := (I'.pin _ (List.mem_append_right _ (hpin _ (List.mem_append_right _ (List.mem_singleton.mpr rfl))))).1
    have hco' := g'.keep c' _ hco (fun z => nomatch z) codeO_ne
    obtain ⟨⟨oc, vs, t, hoc, hdc, hvc⟩, _, _⟩ := I'.hok c' _ hco'
    obtain ⟨ia, pu, rfl, hS, hpv⟩ := hit.inv
    have rc : codeAny (model X.prog X.w) X.A.in1.in1 (.call (.ref f) ⟨[u], []⟩) (CR C8.CX0 X.stack X.prog X.w H' s' (fun w H'' => Gr (nT T') none H' H'' ∧ Tp X.K H'' w (keyD q.2)) C8.E0) s' := by
      have e0 := (I'.env0.in1).in1
      refine PySem.W.kla_callFunE hr2.depth of2 rfl S.co S.gen rfl ⟨c', oc, vs, t, rfl, hoc, hdc, hvc⟩ ?_
      rw [hbind]
      refine wpAny_pure (wpAny_newFunctionEnv S.nocell (fun y hy => ?_) (fun h₁ hns hsb => ⟨I'.nolimit.fresh _ hsb, ?_⟩) S.kind)
      · have e : y = (xk, u) := by simpa using hy
        rw [e]
        exact S.par xk (List.mem_singleton.mpr rfl)
      have kp : ∀ b o, s'.heap.get? b = some o → h₁.get? b = some o := fun b o e => hsb.extBut b o (Nat.ne_of_lt (Heap.lt_size e)) (Heap.get?_push_of_some _ e)
      have J : Inv (ncx C8.CX0 X.prog X.w X.K X.mg X.base N (lamF (X.env.qual ++ "<lambda>") params scope c') f X.A.in1.in1 X.stack s' H' C8.E0) [] (startF N [.ref ia] []) H' { s' with heap := h₁, toks := s'.toks + ([(xk, u)] : List (Str × Value)).length } :=
        inv_startN (F := lamF (X.env.qual ++ "<lambda>") params scope c') (ps := [xk]) (us := [u]) (fr := []) (ws := []) S hr2.hd e0 rfl (.cons rx .nil) ⟨rfl, fun y c z => (nomatch z), fun x y c z => (nomatch z), fun i y z => (nomatch z)⟩ hns kp
      show codeAny _ _ (.expr body (envF (lamF (X.env.qual ++ "<lambda>") params scope c') f s'.heap.objs.size)) _ _
      refine PySem.W.kla_codeExpr (wpAny_mono ((hbody X.A.in1.in1 X.stack s' H' f c' (hr2.deeper _)).run [] _ _ H' (fun w H'' => Gr (nT T') none H' H'' ∧ Tp X.K H'' w (keyD q.2)) J ?_) (fun v s' hq => ?_) fun e s' hq => hq)
      · exact ⟨.ref ia, rfl, ia, _, 1, pu, rfl, rfl, hS, atI_nat (xs := [.int (q.1 : Int), pu]) (j := 1) (v := pu) rfl, pu, q.2, n, rfl, hpv, (hgd q hqb).1, (hgd q hqb).2, fun u H'' g h => ⟨g, h⟩⟩
      · obtain ⟨w', H'', J', rv, q⟩ := hq
        exact ⟨w', H'', J'.os, J'.bare, J'.base, J'.hok, rv, q⟩
    refine wpAny_call (codeAny_mono rc fun r s'' hq => ?_)
    cases r with
    | error e => exact (show False from hq).elim
    | ok fl =>
      cases fl with
      | ret u =>
        obtain ⟨w, H'', I'', rw_, g'', hw⟩ := I'.after hq
        exact ⟨H'', w, I'', rw_, g'', hw⟩
      | next => exact False.elim hq
      | brk => exact False.elim hq
      | cont => exact False.elim hq
  · obtain ⟨v, H3, I4, r4, q4⟩ := hh
    exact ⟨v, H3, I4.unpinned, r4, q4⟩
end
end G6

set_option autoImplicit false
set_option Elab.async false
set_option linter.all false
set_option maxRecDepth 100000
set_option maxHeartbeats 4000000
/-! The order: part_key, plan_key, sorted_items. -/
namespace G6
open PySem PySem.Spec PyProof.Rows L2
/-- the dict RANKS -/
structure Rks (K : PySem.W.Frag) (w : World) (mg : Str → Option Value) : Prop where
  ex : ∃ d, mg "RANKS" = some (.ref d) ∧ KDct K w d "name" (.int 0) ∧ KDct K w d "got" (.int 2) ∧ KDct K w d "letter" (.int 3) ∧ KDct K w d "wait" (.int 4)
section
variable {P : Program} {w : World} {K : PySem.W.Frag} {mg : Str → Option Value} {base : Heap} {T : List NdefX.NTab}
def spPlanKey (T : List NdefX.NTab) (K : PySem.W.Frag) (D : Nat) : Sp := fun vs H Q _ => ∃ (v : V) (b : Pl) (n : Nat), vs = [v] ∧ PlanV K H v b ∧ FitL n b ∧ dpL b < D ∧ ∀ (u : V) (H' : Hp), Gr T none H H' → Tp K H' u (.tuple (keysD b)) → Q u H'
theorem scPartKey : FnScope ["part", "inner", "own", "count", "key"] ["part"] (C8.fnScope sPartKey) := C8.fnScope_by (by decide +kernel)
theorem scPlanKey : FnScope ["plan", "count", "part"] ["plan"] (C8.fnScope sPlanKey) := C8.fnScope_by (by decide +kernel)
theorem sqt_upd {H : Hp} {D a : Addr} {l : List V} {o : HO} {ys : List V} (e : H D = some (.lst l)) (h : SqT K H a ys) : SqT K (upd H D o) a ys := by
  have key : ∀ u : HO, H a = some u → (∀ l, u ≠ .lst l) → upd H D o a = some u := fun u e1 n => by
    rw [upd_ne fun z => ?_]
    · exact e1
    · rw [z, e] at e1
      exact n l (Option.some.inj e1).symm
  rcases h with (h | ⟨o', h⟩) | h
  · exact .inl (.inl (key _ h fun l z => by cases z))
  · exact .inl (.inr ⟨o', key _ h fun l z => by cases z⟩)
  · exact .inr h
theorem take_snoc {α β : Type} (f : α → β) {l : List α} {i : Nat} {x : α} (h : l[i]? = some x) : (l.take (i + 1)).map f = (l.take i).map f ++ [f x] := by
  rw [List.take_add_one, h]
  simp
theorem szL_sum (b : Pl) : ((b.map fun q => (q.1 : Int) * (sz q.2 : Int)).sum) = (szL b : Int) := by
  induction b with
  | nil => rw [List.map_nil, List.sum_nil, szL_nil]; rfl
  | cons x b ih =>
    obtain ⟨c, p⟩ := x
    rw [List.map_cons, List.sum_cons, ih, szL_cons]
    push_cast
    rfl
/-- a key's places -/
theorem key_inv {H : Hp} {u : V} {p : Pt} (h : Tp K H u (keyD p)) : ∃ a l i, u = .ref a ∧ SqT K H a [.int (sz p : Int), .int (rank p : Int), l, i] ∧ Tp K H i (.tuple (keysD (bodyOf p))) := by
  rw [keyD_eq] at h
  obtain ⟨a, xs, rfl, h1, h2⟩ := Tp.tuple_inv h
  obtain ⟨v1, ws, rfl, h3, h4⟩ := h2.cons_inv
  obtain ⟨v2, ws, rfl, h5, h6⟩ := h4.cons_inv
  obtain ⟨v3, ws, rfl, h7, h8⟩ := h6.cons_inv
  obtain ⟨v4, ws, rfl, h9, h10⟩ := h8.cons_inv
  cases h10.nil_inv
  cases h3.int_inv
  cases h5.int_inv
  exact ⟨a, v3, v4, rfl, h1, h9⟩
theorem keyI_inv {H : Hp} {u : V} {q : Nat × Pt} (h : Tp K H u (keyI q)) : ∃ a k, u = .ref a ∧ SqT K H a [k, .int (q.1 : Int)] ∧ Tp K H k (keyD q.2) := by
  obtain ⟨a, xs, rfl, h1, h2⟩ := Tp.tuple_inv h
  obtain ⟨v1, ws, rfl, h3, h4⟩ := h2.cons_inv
  obtain ⟨v2, ws, rfl, h5, h6⟩ := h4.cons_inv
  cases h6.nil_inv
  cases h5.int_inv
  exact ⟨a, v1, rfl, h1, h3⟩
/-- a part's word -/
def wordS : Pt → Str
  | .name _ => "name"
  | .got _ => "got"
  | .box w _ _ => kindS w
/-- a part's places -/
theorem part_at {H : Hp} {p : Pt} {v : V} (h : PartV K H v p) : ∃ (a : Addr) (xs : List V) (l : V), v = .ref a ∧ SqT K H a xs ∧ xs[0]? = some (.str (wordS p)) ∧ xs[1]? = some l ∧ (∀ H' : Hp, Tp K H' l (labD p)) ∧
    ((xs.length = 3 ∧ (∃ w d b, p = .box w d b) ∧ ∃ u, xs[2]? = some u ∧ PlanV K H u (bodyOf p)) ∨ (xs.length = 2 ∧ bodyOf p = [] ∧ ∀ w d b, p ≠ .box w d b)) := by
  cases p with
  | name x =>
    obtain ⟨a, rfl, hS⟩ := h.name_inv
    exact ⟨a, _, .str (S x), rfl, hS, rfl, rfl, fun _ => .str _, .inr ⟨rfl, rfl, fun w d b z => by cases z⟩⟩
  | got d =>
    obtain ⟨a, rfl, hS⟩ := h.got_inv
    exact ⟨a, _, .int (d : Int), rfl, hS, rfl, rfl, fun _ => .int _, .inr ⟨rfl, rfl, fun w d b z => by cases z⟩⟩
  | box w d b =>
    obtain ⟨a, u, rfl, hS, hb⟩ := h.box_inv
    exact ⟨a, _, .str (S d), rfl, hS, rfl, rfl, fun _ => .str _, .inl ⟨rfl, ⟨w, d, b, rfl⟩, u, rfl, hb⟩⟩
theorem dec_len {xs : List V} {n : Nat} {b : Bool} (h : decide (xs.length = n) = b) : V.bl (decide (V.int (xs.length : Int) = V.int (n : Int))) = V.bl b := by
  rw [← h]
  exact congrArg V.bl (decide_eq_decide.mpr ⟨fun z => by have := V.int.inj z; omega, fun z => by rw [z]⟩)
theorem rks_of (R : Rks K w mg) : ∃ d, mg "RANKS" = some (.ref d) ∧ ∀ p : Pt, KDct K w d (wordS p) (.int (rank p : Int)) := by
  obtain ⟨d, h0, h1, h2, h3, h4⟩ := R.ex
  refine ⟨d, h0, fun p => ?_⟩
  cases p with
  | name x => exact h1
  | got d => exact h2
  | box w d b =>
    cases w
    · exact h3
    · exact h4
theorem ok_part_key (D : DefN K mg "part_key" sPartKey ["part"]) (X : Txt mg) (R : Rks K w mg) {n0 : Nat} (cP : C8.Cal P w K mg base (2 * n0 + 2) "plan_key" (spPlanKey T K n0) []) : C8.Cal P w K mg base (2 * n0 + 3) "part_key" (spKey T K n0) [] := by
  refine mkCal D scPartKey (fun vs H Q E h => ?_) (fun f cdv A outer s H vs Q E hr h => ?_)
  · obtain ⟨v, p, n, rfl, _⟩ := h; rfl
  obtain ⟨v, p, n, rfl, hv, hg, hd, q⟩ := h
  obtain ⟨d, hR, hK⟩ := rks_of R
  refine ⟨_, pss_cons (ps_set (i := 1) scPartKey.nd rfl (.inl rfl) (pe_ifExp (pt_cmpR op_eq (pe_callB call_len_seq (by rfl) X.len PySem.boot_len (pa_cons (pv 0) pa_nil)) pe_int (nomark _))
      (C8.pe_c cP hr (Nat.le_refl _) (by rfl) (pa_cons (pe_ix ix_tup (pv 0) pe_int (fun _ _ => rfl)) pa_nil)) (pe_tup pa_nil)))
    (pss_cons (ps_set (i := 2) scPartKey.nd rfl (.inl rfl) (pe_op op_add pe_int (pe_callB (cr_sum rfl) (by rfl) X.sum (by decide +kernel) (pa_cons
      (pe_lc (own := [("count", 3), ("key", 4)]) (g := gTup K 2 (gCons (gName 4) (gCons (gName 3) gNil))) (tt := tYes) rfl scPartKey.nd (pi_tup (pv 1)) (blkOk_by (N := ["part", "inner", "own", "count", "key"]) (sc := C8.fnScope sPartKey) (by decide +kernel))
        (fun _ _ _ _ _ => pg_tup rfl (pgs_cons (pg_name (i := 4) scPartKey.nd rfl (Or.inl rfl)) (pgs_cons (pg_name (i := 3) scPartKey.nd rfl (Or.inl rfl)) pgs_nil))) (fun _ _ _ _ _ => pts_nil)
        (fun _ _ _ _ _ => pe_op op_mul (pv 3) (pe_ix (show IxR _ (rIxT K) from ix_tup) (pv 4) pe_int (fun _ _ => rfl)))) pa_nil))))
    (pss_one (ps_ret (pe_tup (pa_cons (pv 2) (pa_cons (pe_ix ix_kdict (pe_glob (v := .ref d) (by rfl) hR rfl) (pe_ix ix_tup (pv 0) pe_int (fun _ _ => rfl)) (fun _ _ => rfl)) (pa_cons (pe_ix ix_tup (pv 0) pe_int (fun _ _ => rfl)) (pa_cons (pv 1) pa_nil)))))))), ?_⟩
  obtain ⟨va, xs, l, rfl, hS, hw, hl, hlab, hlen⟩ := part_at hv
  have hbd : FitL n (bodyOf p) ∨ FitL (n + 1) (bodyOf p) := by
    cases p with
    | name x => exact .inl ⟨by show GoodL n []; rw [GoodL]; trivial, by show ndL [] ≤ _; rw [ndL_nil]; omega, by show szL [] < _; rw [szL_nil]; omega⟩
    | got x => exact .inl ⟨by show GoodL n []; rw [GoodL]; trivial, by show ndL [] ≤ _; rw [ndL_nil]; omega, by show szL [] < _; rw [szL_nil]; omega⟩
    | box w d b =>
      have z := hg.body.2
      cases w
      · exact .inl z
      · exact .inr z
  have hbl : (bodyOf p).length ≤ 4000 ∧ ∀ q ∈ bodyOf p, q.1 < 2 ^ 64 := hbd.elim (fun z => ⟨z.len, fun q h => z.cnt h⟩) fun z => ⟨z.len, fun q h => z.cnt h⟩
  refine ⟨.ref va, rfl, va, xs, rfl, .inr hS, rfl, decide (xs.length = 3), dec_len rfl, ?_⟩
  rcases hlen with ⟨h3, ⟨w, dd, b, hp⟩, u0, hu0, hpl⟩ | ⟨h2, hb0, _⟩
  case' refine_2.inl =>
    rw [decide_eq_true h3]
    refine iteT (rd_ix (i := 0) (k := 2) rfl hS hu0 ⟨u0, bodyOf p, if w = true then n + 1 else n, rfl, hpl, by rw [hp]; rw [hp] at hg; exact hg.body.2, by rw [hp, dp_box] at hd; rw [hp]; show dpL b < n0; omega, fun i H1 g1 hi => ?_⟩)
  case' refine_2.inr =>
    rw [decide_eq_false (by omega)]
    refine iteF ⟨Nat.zero_le _, fun tp ntp => ?_⟩
    have hi : Tp K (upd H tp (.tup [])) (.ref tp) (.tuple (keysD (bodyOf p))) := by
      rw [hb0, keysD]
      exact .tup (SqT.of upd_same) .nil
    have g1 : Gr T none H (upd H tp (.tup [])) := gr_new ntp
    revert g1 hi
    generalize upd H tp (.tup []) = H1
    generalize V.ref tp = i
    intro hi g1
  all_goals
    obtain ⟨ia, ks, rfl, hkS, hkA⟩ := hi.tuple_inv
    have hi' : Tp K H1 (.ref ia) (.tuple (keysD (bodyOf p))) := .tup hkS hkA
    rw [keysD_map] at hkA
    have hkl : ks.length = (bodyOf p).length := by rw [hkA.length, List.length_map]
    refine ⟨.ref ia, rfl, ia, rfl, ⟨ks, hkS⟩, fun D nD => lc_it walk_tup (fun i H3 => Gr T none H1 H3 ∧ H3 D = some (.lst (((bodyOf p).take i).map fun q => V.int ((q.1 : Int) * (sz q.2 : Int))))) ⟨gr_new nD, upd_same⟩ (fun _ _ _ hP => hP.1.sqt0 hkS) (fun i x H3 H4 hi hP hY => ?_) (fun H3 hP => ?_)⟩
    · obtain ⟨g, e⟩ := hP
      obtain ⟨rfl, hx⟩ := hY
      have hib : i < (bodyOf p).length := by omega
      obtain ⟨x', hx', ht⟩ := hkA.get (i := i) (d := keyI (bodyOf p)[i]) (by rw [List.getElem?_map, List.getElem?_eq_getElem hib]; rfl)
      rw [hx] at hx'
      cases hx'
      obtain ⟨ka, kk, rfl, hkk, hkt⟩ := keyI_inv ht
      obtain ⟨kb, kl, ki, rfl, hkb, _⟩ := key_inv hkt
      refine ⟨ka, _, rfl, g.sqt0 hkk, rfl, _, _, rfl, _, _, rfl, rfl, rfl, .int ((bodyOf p)[i].1 : Int), rfl, rd_ix (i := 4) (k := 0) rfl (g.sqt0 hkb) rfl ⟨((bodyOf p)[i].1 : Int), (sz (bodyOf p)[i].2 : Int), rfl, rfl, .inl ⟨by omega, ?_⟩, _, e, ?_, ?_⟩⟩
      · have := hbl.2 _ (List.getElem_mem hib)
        omega
      · rw [List.length_map, List.length_take]
        have := hbl.1
        show _ < 2 ^ 24
        omega
      · refine ⟨g.mut nD e (fun _ z => by cases z) (fun _ _ z => by cases z), ?_⟩
        rw [upd_same, take_snoc _ (List.getElem?_eq_getElem hib)]
    · obtain ⟨g, e⟩ := hP
      rw [List.take_of_length_le (by omega)] at e
      refine ⟨D, (bodyOf p).map fun q => (q.1 : Int) * (sz q.2 : Int), rfl, by rw [List.map_map]; exact SqL.of e, 1, (szL (bodyOf p) : Int), rfl, by rw [szL_sum], ?_⟩
      have g3 := g1.trans g
      refine ⟨.int (1 + (szL (bodyOf p) : Int)), rfl, rd_ix (i := 0) (k := 0) rfl (g3.sqt0 hS) hw ⟨d, wordS p, .int (rank p : Int), rfl, rfl, hK p, rd_ix (i := 0) (k := 1) rfl (g3.sqt0 hS) hl ⟨.ref ia, rfl, by show 4 ≤ sizeLine; decide, fun pt npt => ?_⟩⟩⟩
      have g4 : Gr T none H3 (upd H3 pt (.tup [.int (1 + (szL (bodyOf p) : Int)), .int (rank p : Int), l, .ref ia])) := gr_new npt
      refine q _ _ (g3.trans g4) ?_
      rw [keyD_eq]
      refine .tup (SqT.of upd_same) (.cons ?_ (.cons (.int _) (.cons (hlab _) (.cons (g4.tp (g.tp hi')) .nil))))
      have e1 : (1 + (szL (bodyOf p) : Int)) = (sz p : Int) := by
        cases p with
        | name x => show (1 + (szL [] : Int)) = _; rw [szL_nil, sz]; rfl
        | got x => show (1 + (szL [] : Int)) = _; rw [szL_nil, sz]; rfl
        | box w d b => show (1 + (szL b : Int)) = _; rw [sz_box]; push_cast; rfl
      rw [e1]
      exact .int _
theorem ok_plan_key (D : DefN K mg "plan_key" sPlanKey ["plan"]) (X : Txt mg) {n0 : Nat} (cP : C8.Cal P w K mg base (2 * n0 + 3) "part_key" (spKey T K n0) []) : C8.Cal P w K mg base (2 * n0 + 4) "plan_key" (spPlanKey T K (n0 + 1)) [] := by
  refine mkCal D scPlanKey (fun vs H Q E h => ?_) (fun f cdv A outer s H vs Q E hr h => ?_)
  · obtain ⟨v, p, n, rfl, _⟩ := h; rfl
  obtain ⟨v, b, n, rfl, hv, hg, hd, q⟩ := h
  obtain ⟨a, xs, rfl, hS, hI⟩ := hv.inv
  refine ⟨_, pss_one (ps_ret (pe_tupleOf (by rfl) X.tuple
      (pe_lc (own := [("count", 1), ("part", 2)]) (g := gTup K 2 (gCons (gName 1) (gCons (gName 2) gNil))) (tt := tYes) rfl scPlanKey.nd (pi_tup (pv 0)) (blkOk_by (N := ["plan", "count", "part"]) (sc := C8.fnScope sPlanKey) (by decide +kernel))
        (fun _ _ _ _ _ => pg_tup rfl (pgs_cons (pg_name (i := 1) scPlanKey.nd rfl (Or.inl rfl)) (pgs_cons (pg_name (i := 2) scPlanKey.nd rfl (Or.inl rfl)) pgs_nil))) (fun _ _ _ _ _ => pts_nil)
        (fun _ _ _ _ _ => pe_tup (pa_cons (C8.pe_c cP hr (Nat.le_refl _) (by rfl) (pa_cons (pv 2) pa_nil)) (pa_cons (pv 1) pa_nil)))))), ?_⟩
  have hxl : xs.length = b.length := hI.len
  refine ⟨.ref a, rfl, a, rfl, ⟨xs, hS⟩, fun D nD => lc_it walk_tup (fun i H3 => Gr T none H H3 ∧ ∃ ks, H3 D = some (.lst ks) ∧ TpAll K H3 ks ((b.take i).map keyI)) ⟨gr_new nD, [], upd_same, .nil⟩ (fun _ _ _ hP => hP.1.sqt0 hS) (fun i x H3 H4 hi hP hY => ?_) (fun H3 hP => ?_)⟩
  · obtain ⟨g, ks, e, hk⟩ := hP
    obtain ⟨rfl, hx⟩ := hY
    have hib : i < b.length := by omega
    obtain ⟨x', hx', ht⟩ := hI.get (List.getElem?_eq_getElem hib)
    rw [hx] at hx'
    cases hx'
    obtain ⟨ia, u, rfl, hS2, hu⟩ := ht.inv
    have hm := List.getElem_mem hib
    have hdm := dp_mem hm
    refine ⟨ia, _, rfl, g.sqt0 hS2, rfl, _, _, rfl, _, _, rfl, rfl, rfl, u, rfl, u, b[i].2, n, rfl, g.tp hu, hg.mem hm, by omega, fun k H5 g5 hk5 => ⟨_, rfl, by show 2 ≤ sizeLine; decide, fun pt npt => ?_⟩⟩
    have g6 : Gr T none H5 (upd H5 pt (.tup [k, .int (b[i].1 : Int)])) := gr_new npt
    have e6 := g6.lst (g5.lst e)
    have hlk : ks.length = i := by
      rw [hk.length, List.length_map, List.length_take]
      omega
    refine ⟨ks, e6, ?_, ?_⟩
    · have := hg.len
      show _ < 2 ^ 24
      omega
    · have g7 := (g.trans g5).trans g6
      have g8 := g7.mut nD e6 (o := .lst (ks ++ [.ref pt])) (fun _ z => by cases z) (fun _ _ z => by cases z)
      have keep : ∀ a ys, SqT K (upd H5 pt (.tup [k, .int (b[i].1 : Int)])) a ys → SqT K (upd (upd H5 pt (.tup [k, .int (b[i].1 : Int)])) D (.lst (ks ++ [.ref pt]))) a ys := fun a ys z => sqt_upd e6 z
      refine ⟨g8, _, upd_same, ?_⟩
      rw [take_snoc _ (List.getElem?_eq_getElem hib)]
      exact tpAll_snoc (TpAll.ext keep _ _ ((g5.trans g6).tpAll hk)) (.tup (keep _ _ (SqT.of upd_same)) (.cons (Tp.ext keep _ _ (g6.tp hk5)) (.cons (.int _) .nil)))
  · obtain ⟨g, ks, e, hk⟩ := hP
    rw [List.take_of_length_le (by omega)] at hk
    refine .inl ⟨D, ks, rfl, SqL.of e, fun pt npt => ?_⟩
    have g4 : Gr T none H3 (upd H3 pt (.tup ks)) := gr_new npt
    refine q _ _ (g.trans g4) ?_
    rw [keysD_map]
    exact .tup (SqT.of upd_same) (g4.tpAll hk)
/-- all depths -/
theorem ok_key (D1 : DefN K mg "part_key" sPartKey ["part"]) (D2 : DefN K mg "plan_key" sPlanKey ["plan"]) (X : Txt mg) (R : Rks K w mg) : ∀ n, C8.Cal P w K mg base (2 * n + 2) "plan_key" (spPlanKey T K n) []
  | 0 => calFalse D2 fun vs H Q E h => by
      obtain ⟨v, b, n, _, _, _, hd, _⟩ := h
      omega
  | n + 1 => ok_plan_key D2 X (ok_part_key D1 X R (ok_key D1 D2 X R n))
end
end G6

set_option autoImplicit false
set_option Elab.async false
set_option linter.all false
set_option maxRecDepth 100000
set_option maxHeartbeats 4000000
/-! sorted_items. -/
namespace G6
open PySem PySem.Spec PyProof.Rows L2
/-- a def of the text that makes functions: its code object -/
structure DefC (K : PySem.W.Frag) (mg : Str → Option Value) (x : Str) (st : Stmt) (ps : List Str) (c : Addr) : Prop where
  ex : ∃ (f : Addr) (fd : FuncData), C8.Def K mg x st f fd ∧ Binds K fd ps [] ∧ fd.code = .ref c
/-- the table of a def's code object, that tells one name -/
structure TabF (base : Heap) (mg : Str → Option Value) (T' : List (Addr × Str)) (c P : Addr) (q : Str) : Prop where
  tb : LamX.TabB base mg c P
  mem : (P, q) ∈ T'
  uni : ∀ p ∈ T', p.1 = P → p.2 = q
section
variable {P : Program} {w : World} {K : PySem.W.Frag} {mg : Str → Option Value} {base : Heap} {T' : List (Addr × Str)}
theorem mkCalC {x : Str} {st : Stmt} {N ps : List Str} {k : Nat} {sp : Sp} {c : Addr} (D : DefC K mg x st ps c) (S : FnScope N ps (C8.fnScope st)) (len : ∀ vs H Q E, sp vs H Q E → vs.length = ps.length)
    (hbody : ∀ (f : Addr) (A : Around) (outer : List Env) (s : Shared) (H : Hp) (vs : List V) (Q : VK) (E : XK), Room k (A.deeper (envOfC x (C8.fnScope st) s.heap.objs.size f (.ref c))) → sp vs H Q E →
      ∃ t, PSs (cxOf C8.CX0 P w K mg base N x (C8.fnScope st) f (.ref c) A outer s H E).nox (C8.fnBody st) t ∧ t { nx := fun _ H' => Q .non H', rt := Q } (start N vs) H) : C8.Cal P w K mg base (k + 1) x sp [] := by
  obtain ⟨f, fd, F, b, hc⟩ := D.ex
  obtain ⟨⟨oc, od, dV, kV, doc, pm, an, cdv, ct, osl, rfl, lk, hcd⟩, hm, hk⟩ := F
  obtain rfl : cdv = .ref c := hc
  refine ⟨f, _, ps, [], fn_of lk hcd S len fun A outer s H vs Q E hr hsp => ?_, hm, hk, b, .nil⟩
  obtain ⟨t, h, q⟩ := hbody f A outer s H vs Q E hr hsp
  exact ⟨t, h.nox, q⟩
theorem sql_new {H : Hp} {a p : Addr} {o : HO} {xs : List V} (n : H p = none) (h : SqL K H a xs) : SqL K (upd H p o) a xs := by
  have key : ∀ u : HO, H a = some u → upd H p o a = some u := fun u e => by
    rw [upd_ne (ne_of_none e n)]
    exact e
  rcases h with (h | ⟨o', h⟩) | h
  · exact .inl (.inl (key _ h))
  · exact .inl (.inr ⟨o', key _ h⟩)
  · exact .inr h
/-! ### items put together -/
/-- a list or a tuple of items -/
def spItems (T' : List (Addr × Str)) (K : PySem.W.Frag) (D : Nat) : Sp := fun vs H Q _ => ∃ (l : Addr) (xs : List V) (b : Pl) (n : Nat), vs = [.ref l] ∧ SqL K H l xs ∧ ItemsV K H xs b ∧ (∀ q ∈ b, FitP n q.2 ∧ dp q.2 ≤ D) ∧ b.length ≤ 4000 ∧ NdefX.TabsN (nT T') H ∧
  ∀ (u : V) (H' : Hp), Gr (nT T') none H H' → PlanV K H' u (sortItems b) → Q u H'
theorem scSortedItems : FnScope ["items", "found", "count", "part"] ["items"] (C8.fnScope sSortedItems) := C8.fnScope_by (by decide +kernel)
theorem items_shaped {n D : Nat} {q : Nat × Pt} (h : FitP n q.2) (hd : dp q.2 ≤ D) (hD : D ≤ 20) : SeqAt.shaped (partD q.2) = true := part_shaped h.good (Nat.le_trans hd hD)
theorem joinStep_last (acc : Pl) (q : Nat × Pt) : joinStep acc q = match acc.getLast? with
    | none => [q]
    | some x => if x.2 = q.2 then acc.dropLast ++ [(x.1 + q.1, q.2)] else acc ++ [q] := by
  rcases list_end acc with rfl | ⟨a, x, rfl⟩
  · rfl
  · obtain ⟨c, p⟩ := x
    have e1 : (a ++ [(c, p)]).getLast? = some (c, p) := by simp
    have e2 : (a ++ [(c, p)]).dropLast = a := by simp
    rw [e1, e2]
    dsimp only
    by_cases h : p = q.2
    · subst h
      rw [if_pos rfl]
      exact joinStep_same a c q
    · rw [if_neg h]
      exact joinStep_other a c p q h
theorem join_len (l acc : Pl) : (l.foldl joinStep acc).length ≤ acc.length + l.length := by
  induction l generalizing acc with
  | nil => exact Nat.le_refl _
  | cons q l ih =>
    rw [List.foldl_cons, List.length_cons]
    have h1 := ih (joinStep acc q)
    have h2 : (joinStep acc q).length ≤ acc.length + 1 := by
      rcases list_end acc with rfl | ⟨a, x, rfl⟩
      · exact Nat.le_refl _
      · obtain ⟨c, p⟩ := x
        by_cases h : p = q.2
        · subst h
          rw [joinStep_same]
          simp
        · rw [joinStep_other a c p q h]
          simp
    omega
theorem join_part_go : ∀ (l acc : Pl) {x : Nat × Pt}, x ∈ l.foldl joinStep acc → ∃ y, (y ∈ acc ∨ y ∈ l) ∧ y.2 = x.2
  | [], acc, x, h => ⟨x, .inl h, rfl⟩
  | q :: l, acc, x, h => by
    rw [List.foldl_cons] at h
    obtain ⟨y, hy, e⟩ := join_part_go l (joinStep acc q) h
    rcases hy with hy | hy
    · rcases list_end acc with rfl | ⟨a, ⟨c, p⟩, rfl⟩
      · have hy : y ∈ [q] := hy
        rw [List.mem_singleton] at hy
        exact ⟨q, .inr (List.mem_cons_self ..), by rw [← hy]; exact e⟩
      · by_cases hp : p = q.2
        · subst hp
          rw [joinStep_same] at hy
          rcases List.mem_append.mp hy with z | z
          · exact ⟨y, .inl (List.mem_append_left _ z), e⟩
          · rw [List.mem_singleton] at z
            refine ⟨q, .inr (List.mem_cons_self ..), ?_⟩
            rw [z] at e
            exact e
        · rw [joinStep_other a c p q hp] at hy
          rcases List.mem_append.mp hy with z | z
          · exact ⟨y, .inl z, e⟩
          · rw [List.mem_singleton] at z
            exact ⟨q, .inr (List.mem_cons_self ..), by rw [← z]; exact e⟩
    · exact ⟨y, .inr (List.mem_cons_of_mem _ hy), e⟩
theorem join_part {l : Pl} {x : Nat × Pt} (h : x ∈ l.foldl joinStep []) : ∃ y ∈ l, y.2 = x.2 := by
  obtain ⟨y, hy, e⟩ := join_part_go l [] h
  rcases hy with z | z
  · cases z
  · exact ⟨y, z, e⟩
theorem items_snoc_inv {H : Hp} : ∀ {zs : List V} {a : Pl} {x : Nat × Pt}, ItemsV K H zs (a ++ [x]) → ∃ zs' zv, zs = zs' ++ [zv] ∧ ItemsV K H zs' a ∧ ItemV K H zv x
  | zs, [], x, h => by
    obtain ⟨v, ws, rfl, h1, h2⟩ := TpAll.cons_inv (show TpAll K H zs (itemD x :: []) from h)
    cases h2.nil_inv
    exact ⟨[], v, rfl, .nil, h1⟩
  | zs, y :: a, x, h => by
    obtain ⟨v, ws, rfl, h1, h2⟩ := TpAll.cons_inv (show TpAll K H zs (itemD y :: (a ++ [x]).map itemD) from h)
    obtain ⟨zs', zv, rfl, h3, h4⟩ := items_snoc_inv (a := a) h2
    exact ⟨v :: zs', zv, rfl, .cons h1 h3, h4⟩
theorem ixN_last (xs : List V) (v : V) : ixN (xs ++ [v]).length (-1) = some xs.length := by
  unfold ixN
  rw [List.length_append, List.length_singleton, if_neg (by decide), if_pos (by push_cast; omega)]
  congr 1
  push_cast
  omega
theorem set_last (xs : List V) (v u : V) : (xs ++ [v]).set xs.length u = xs ++ [u] := by
  induction xs with
  | nil => rfl
  | cons x xs ih => exact congrArg (List.cons x) ih
theorem foldl_take_succ (l acc : Pl) {i : Nat} {q : Nat × Pt} (h : l[i]? = some q) : (l.take (i + 1)).foldl joinStep acc = joinStep ((l.take i).foldl joinStep acc) q := by
  rw [List.take_add_one, h]
  simp
theorem ok_sorted_items {n0 D : Nat} {c Pt' : Addr} (Df : DefC K mg "sorted_items" sSortedItems ["items"] c) (X : Txt mg) (Tb : TabF base mg T' c Pt' "sorted_items.<locals>.<lambda>") (hD : D ≤ 20)
    (cP : C8.Cal P w K mg base (2 * n0 + 3) "part_key" (spKey (nT T') K D) []) : C8.Cal P w K mg base (2 * n0 + 8) "sorted_items" (spItems T' K D) [] := by
  refine mkCalC Df scSortedItems (fun vs H Q E h => ?_) (fun f A outer s H vs Q E hr h => ?_)
  · obtain ⟨l, xs, b, n, rfl, _⟩ := h; rfl
  obtain ⟨l, xs, b, n, rfl, hS, hI, hg, hbl, hT, q⟩ := h
  have eq1 : (("sorted_items" : Str) ++ ".<locals>.") ++ "<lambda>" = "sorted_items.<locals>.<lambda>" := by decide +kernel
  have hm : (Pt', (("sorted_items" : Str) ++ ".<locals>.") ++ "<lambda>") ∈ T' := by rw [eq1]; exact Tb.mem
  have hu : ∀ p ∈ T', p.1 = Pt' → p.2 = (("sorted_items" : Str) ++ ".<locals>.") ++ "<lambda>" := by rw [eq1]; exact Tb.uni
  refine ⟨_, pss_cons (ps_set (i := 1) scSortedItems.nd rfl (.inl rfl) (pe_lst pa_nil))
    (pss_cons (ps_for PassesOwn.never rfl (pi_list (pe_sortLam (T' := T') (D := D) (N := ["item"]) (xk := "item") (k := 2 * n0 + 3) (by rfl) X.sorted (pa_cons (pe_callTy call_list_of (by rfl) X.list (by decide +kernel) (pa_cons (pv 0) pa_nil)) pa_nil)
          Tb.tb rfl hm hu (fun b hb => ?_) (hr.mono (by omega)) (by omega) (by rfl) (NdefX.nscope_by (by decide +kernel)) (by decide +kernel) (fun _ _ _ _ _ _ => rfl)
          (fun A outer s H f c' hr2 => C8.pe_c cP hr2 (Nat.le_refl _) (by rfl) (pa_cons (pe_ix ix_tup (pv 0) pe_int (fun _ _ => rfl)) pa_nil))))
        (pg_tup rfl (pgs_cons (pg_name (i := 2) scSortedItems.nd rfl (Or.inl rfl)) (pgs_cons (pg_name (i := 3) scSortedItems.nd rfl (Or.inl rfl)) pgs_nil)))
      (pss_one (ps_if (PW.pt (pw_and (pt_cmpR op_gt (pe_callB call_len_seq (by rfl) X.len PySem.boot_len (pa_cons (pv 1) pa_nil)) pe_int (nomark _))
          (pw_and1 (pt_cmpR (op_eqD hr.units) (pe_ix ix_tup (pe_ix ix_list (pv 1) (pe_un un_neg pe_int) (fun _ _ => rfl)) pe_int (fun _ _ => rfl)) (pv 3) (nomark _)))))
        (pss_one (ps_asg (pe_tup (pa_cons (pe_op op_add (pe_ix ix_tup (pe_ix ix_list (pv 1) (pe_un un_neg pe_int) (fun _ _ => rfl)) pe_int (fun _ _ => rfl)) (pv 2)) (pa_cons (pv 3) pa_nil))) (pg_sub (pv 1) (pe_un un_neg pe_int) set_list)))
        (pss_one (ps_expr (pe_bm PySem.F.plainAttrs_list PySem.F.slot_list_append PySem.F.type_list_append mt_append (pv 1) (pa_cons (pe_tup (pa_cons (pv 2) (pa_cons (pv 3) pa_nil))) pa_nil)))))))
    (pss_one (ps_ret (pe_tupleOf (by rfl) X.tuple (pv 1))))), ?_⟩
  · exact ⟨fun z => hb (by rw [z]; exact List.mem_cons_self ..), fun z => hb (List.mem_cons_of_mem _ z)⟩
  have hxl : xs.length = b.length := hI.len
  refine ⟨Nat.zero_le _, fun Da nDa => ⟨.ref l, rfl, l, xs, rfl, .inl ?_, fun La nLa => ?_⟩⟩
  · exact sql_new nDa hS
  have gA : Gr (nT T') none H (upd (upd H Da (.lst [])) La (.lst xs)) := (gr_new nDa).trans (gr_new nLa)
  have eD : upd (upd H Da (.lst [])) La (.lst xs) Da = some (.lst []) := by rw [upd_ne (ne_of_none upd_same nLa)]; exact upd_same
  refine ⟨La, xs, b, n, rfl, SqL.of upd_same, gA.tpAll hI, hg, gA.tabs hT, gA, fun p ys H2 g2 eN hne hys hp => ?_⟩
  have hneD : Da ≠ p := hne Da [] eD
  have eD2 : H2 Da = some (.lst []) := eN _ _ eD fun ps z => by cases z
  have hyl : ys.length = b.length := by rw [hys.len, List.length_mergeSort]
  refine ⟨p, rfl, ⟨ys, SqL.of hp⟩, for_it walk_list (fun i σ H3 => ∃ y1 y2 zs, σ = [some (.ref l), some (.ref Da), y1, y2] ∧ Gr (nT T') none H H3 ∧ H3 p = some (.lst ys) ∧ ItemsV K H3 ys (b.mergeSort leP) ∧ H3 Da = some (.lst zs) ∧ ItemsV K H3 zs (((b.mergeSort leP).take i).foldl joinStep []))
    ⟨none, none, [], rfl, g2, hp, hys, eD2, .nil⟩ (fun i σ H3 _ ⟨_, _, _, _, _, e, _⟩ => SqL.of e) (fun i x σ H3 H4 hi hP hY => ?_) (fun σ H3 hP => ?_)⟩
  · obtain ⟨y1, y2, zs, rfl, g, hp3, hys3, eD3, hz⟩ := hP
    obtain ⟨rfl, hx⟩ := hY
    have hib : i < (b.mergeSort leP).length := by rw [List.length_mergeSort]; omega
    obtain ⟨x', hx', ht⟩ := hys3.get (List.getElem?_eq_getElem hib)
    rw [hx] at hx'
    cases hx'
    have hmem : (b.mergeSort leP)[i] ∈ b := (List.mergeSort_perm b leP).mem_iff.mp (List.getElem_mem hib)
    rw [foldl_take_succ _ _ (List.getElem?_eq_getElem hib)]
    have hacc : (((b.mergeSort leP).take i).foldl joinStep []).length ≤ 4000 := by
      have h1 := join_len ((b.mergeSort leP).take i) []
      rw [List.length_take, List.length_nil] at h1
      omega
    generalize (b.mergeSort leP)[i] = q at ht hmem ⊢
    have hpm : ∀ x ∈ ((b.mergeSort leP).take i).foldl joinStep [], ∃ y ∈ b, y.2 = x.2 := fun x hx => by
      obtain ⟨y, hy, e⟩ := join_part hx
      exact ⟨y, (List.mergeSort_perm b leP).mem_iff.mp (List.mem_of_mem_take hy), e⟩
    generalize ((b.mergeSort leP).take i).foldl joinStep [] = acc at hz hacc hpm ⊢
    obtain ⟨ia, u, rfl, hS2, hu⟩ := ht.inv
    refine ⟨ia, _, rfl, hS2, rfl, _, _, rfl, _, _, rfl, rfl, .ref Da, rfl, Da, zs, rfl, .inl (SqL.of eD3), (zs.length : Int), 0, rfl, rfl, decide (0 < zs.length), ?_, ?_⟩
    · exact congrArg V.bl (decide_eq_decide.mpr ⟨fun z => by omega, fun z => by omega⟩)
    have hneD' : p ≠ Da := fun z => hneD z.symm
    by_cases hc : ∃ a c0, acc = a ++ [(c0, q.2)]
    · obtain ⟨a, c0, rfl⟩ := hc
      obtain ⟨zs', zv, rfl, hz1, hzv⟩ := items_snoc_inv hz
      obtain ⟨za, zu, rfl, hzS, hzu⟩ := hzv.inv
      have eq2 : PyData.eqv (partD q.2) (partD q.2) = true := by rw [part_eqv]; exact decide_eq_true rfl
      have hsh := items_shaped (hg q hmem).1 (hg q hmem).2 hD
      rw [decide_eq_true (by simp)]
      refine iteT ⟨.ref Da, rfl, 1, rfl, Da, _, -1, .ref za, rfl, rfl, SqL.of eD3, atI_last _ _, za, _, 1, zu, rfl, rfl, hzS, atI_nat (j := 1) rfl, u, rfl, partD q.2, partD q.2, hzu.dp, hu.dp, hsh, hsh, true, congrArg V.bl eq2, iteT ?_⟩
      refine ⟨.ref Da, rfl, 1, rfl, Da, _, -1, .ref za, rfl, rfl, SqL.of eD3, atI_last _ _, za, _, 0, .int (c0 : Int), rfl, rfl, hzS, atI_nat (j := 0) rfl, .int (q.1 : Int), rfl, (c0 : Int), (q.1 : Int), rfl, rfl, u, rfl, by show 2 ≤ sizeLine; decide, fun tp ntp => ?_⟩
      have eD5 : upd H4 tp (.tup [.int ((c0 : Int) + (q.1 : Int)), u]) Da = some (.lst (zs' ++ [.ref za])) := by rw [upd_ne (ne_of_none eD3 ntp)]; exact eD3
      refine ⟨.ref Da, rfl, 1, rfl, Da, _, -1, zs'.length, rfl, rfl, eD5, ixN_last zs' _, ?_⟩
      rw [set_last, joinStep_same]
      have g6 : Gr (nT T') none H4 (upd H4 tp (.tup [.int ((c0 : Int) + (q.1 : Int)), u])) := gr_new ntp
      have hp5 : upd H4 tp (.tup [.int ((c0 : Int) + (q.1 : Int)), u]) p = some (.lst ys) := g6.lst hp3
      have keep : ∀ a ys, SqT K (upd H4 tp (.tup [.int ((c0 : Int) + (q.1 : Int)), u])) a ys → SqT K (upd (upd H4 tp (.tup [.int ((c0 : Int) + (q.1 : Int)), u])) Da (.lst (zs' ++ [.ref tp]))) a ys := fun a ys z => sqt_upd eD5 z
      refine ⟨_, _, _, rfl, (g.trans g6).mut nDa eD5 (fun _ z => by cases z) (fun _ _ z => by cases z), ?_, TpAll.ext keep _ _ (g6.tpAll hys3), upd_same, ?_⟩
      · rw [upd_ne hneD']
        exact hp5
      · refine ItemsV.snoc (TpAll.ext keep _ _ (g6.tpAll hz1)) ?_
        have z2 : (((c0 + q.1 : Nat)) : Int) = (c0 : Int) + (q.1 : Int) := by push_cast; rfl
        refine ItemV.mk (by rw [z2]; exact keep _ _ (SqT.of upd_same)) (Tp.ext keep _ _ (g6.tp hu))
    rcases list_end acc with rfl | ⟨a, ⟨c0, p0⟩, rfl⟩
    case' neg.inl =>
      cases hz.nil_inv
      rw [decide_eq_false (by simp)]
      refine iteF (iteF ?_)
      have ej : joinStep [] q = [] ++ [q] := rfl
      rw [ej]
    case' neg.inr =>
      have hpq : p0 ≠ q.2 := fun z => hc ⟨a, c0, by rw [z]⟩
      rw [joinStep_other a c0 p0 q hpq]
      obtain ⟨zs', zv, rfl, hz1, hzv⟩ := items_snoc_inv hz
      obtain ⟨za, zu, rfl, hzS, hzu⟩ := hzv.inv
      have eq2 : PyData.eqv (partD p0) (partD q.2) = false := by rw [part_eqv]; exact decide_eq_false hpq
      obtain ⟨q0, hq0, eq0⟩ := hpm (c0, p0) (by simp)
      have hsh := items_shaped (hg q hmem).1 (hg q hmem).2 hD
      have hsh0 := items_shaped (hg q0 hq0).1 (hg q0 hq0).2 hD
      rw [eq0] at hsh0
      rw [decide_eq_true (by simp)]
      refine iteT ⟨.ref Da, rfl, 1, rfl, Da, _, -1, .ref za, rfl, rfl, SqL.of eD3, atI_last _ _, za, _, 1, zu, rfl, rfl, hzS, atI_nat (j := 1) rfl, u, rfl, partD p0, partD q.2, hzu.dp, hu.dp, hsh0, hsh, false, congrArg V.bl eq2, iteF ?_⟩
      generalize zs' ++ [V.ref za] = zs at hz eD3 ⊢
      generalize a ++ [(c0, p0)] = acc at hz hacc ⊢
    all_goals
      refine ⟨.ref Da, rfl, .inl ⟨rfl, _, SqL.of eD3⟩, .int (q.1 : Int), rfl, u, rfl, by show 2 ≤ sizeLine; decide, fun tp ntp => ?_⟩
      have g6 : Gr (nT T') none H4 (upd H4 tp (.tup [.int (q.1 : Int), u])) := gr_new ntp
      have eD5 := g6.lst eD3
      have hp5 := g6.lst hp3
      refine ⟨Da, _, .ref tp, rfl, rfl, eD5, ?_, ?_⟩
      · have := hz.len
        show _ < 2 ^ 24
        omega
      have keep : ∀ a ys zs, SqT K (upd H4 tp (.tup [.int (q.1 : Int), u])) a ys → SqT K (upd (upd H4 tp (.tup [.int (q.1 : Int), u])) Da (.lst zs)) a ys := fun a ys zs z => sqt_upd eD5 z
      refine ⟨_, _, _, rfl, (g.trans g6).mut nDa eD5 (fun _ z => by cases z) (fun _ _ z => by cases z), ?_, TpAll.ext (fun a ys => keep a ys _) _ _ (g6.tpAll hys3), upd_same, ?_⟩
      · rw [upd_ne hneD']
        exact hp5
      · exact ItemsV.snoc (TpAll.ext (fun a ys => keep a ys _) _ _ (g6.tpAll hz)) (ItemV.mk (keep _ _ _ (SqT.of upd_same)) (Tp.ext (fun a ys => keep a ys _) _ _ (g6.tp hu)))
  · obtain ⟨y1, y2, zs, rfl, g, hp3, hys3, eD3, hz⟩ := hP
    rw [List.take_of_length_le (by rw [List.length_mergeSort]; omega)] at hz
    refine ⟨.ref Da, rfl, .inl ⟨Da, zs, rfl, SqL.of eD3, fun pt npt => ?_⟩⟩
    have g4 : Gr (nT T') none H3 (upd H3 pt (.tup zs)) := gr_new npt
    exact q _ _ (g.trans g4) (PlanV.mk (SqT.of upd_same) (g4.tpAll hz))
end
end G6

set_option autoImplicit false
set_option Elab.async false
set_option linter.all false
set_option maxRecDepth 100000
set_option maxHeartbeats 4000000
/-! A def that is handed a function which captured cells of another frame, and calls it. -/
namespace G6
open PySem PySem.Spec PyProof.Rows L2 LamX NdefX
/-- a def's promise where captured cells hold ws -/
def FnM (P : Program) (w : World) (K : PySem.W.Frag) (mg : Str → Option Value) (base : Heap) (k : Nat) (g : Addr) (cl : List (Str × Addr)) (fr : List Str) (ws : List (Option V)) (sp : Sp) : Prop :=
  ∀ (A : Around) (outer : List Env) (s : Shared) (H : Hp) (us : List Value) (vs : List V) (Q : VK), Room k A → Env0 P w K mg base A outer s H → Vals vs us → CellsAt cl fr ws s.heap H → (∀ y c, cl.lookup y = some c → c ∉ frs outer) → sp vs H Q C8.E0 →
    codeAny (model P w) A (.call (.ref g) ⟨us, []⟩) (CR C8.CX0 outer P w H s Q C8.E0) s
/-- .. under its name -/
def CalM (P : Program) (w : World) (K : PySem.W.Frag) (mg : Str → Option Value) (base : Heap) (k : Nat) (x : Str) (cl : List (Str × Addr)) (fr : List Str) (ws : List (Option V)) (sp : Sp) : Prop :=
  ∃ g, FnM P w K mg base k g cl fr ws sp ∧ mg x = some (.ref g) ∧ PySem.W.keepIn K (.ref g) = true
section
variable {P : Program} {w : World} {K : PySem.W.Frag} {mg : Str → Option Value} {base : Heap}
theorem mkCalM {x : Str} {st : Stmt} {N ps : List Str} {k : Nat} {sp : Sp} {cl : List (Str × Addr)} {fr : List Str} {ws : List (Option V)} (D : DefN K mg x st ps) (S : FnScope N ps (C8.fnScope st)) (len : ∀ vs H Q E, sp vs H Q E → vs.length = ps.length)
    (hbody : ∀ (f : Addr) (cdv : Value) (A : Around) (outer : List Env) (s : Shared) (H : Hp) (vs : List V) (Q : VK), Room k (A.deeper (envOfC x (C8.fnScope st) s.heap.objs.size f cdv)) → CellsAt cl fr ws s.heap H → (∀ y c, cl.lookup y = some c → c ∉ frs outer) → sp vs H Q C8.E0 →
      ∃ t, PSs (cxOf C8.CX0 P w K mg base N x (C8.fnScope st) f cdv A outer s H C8.E0).nox (C8.fnBody st) t ∧ t { nx := fun _ H' => Q .non H', rt := Q } (start N vs) H) : CalM P w K mg base (k + 1) x cl fr ws sp := by
  obtain ⟨f, fd, F, b⟩ := D.ex
  obtain ⟨⟨oc, od, dV, kV, doc, pm, an, cdv, ct, osl, rfl, lk, hcd⟩, hm, hk⟩ := F
  refine ⟨f, fun A outer s H us vs Q hr e0 r C nf hsp => ?_, hm, hk⟩
  have hl := len _ _ _ _ hsp
  have hlu : us.length = ps.length := by rw [← r.length]; exact hl
  have KX : K.In s.heap := e0.mod.kin.keeps fun b o e => (e0.bs b o e).1
  have hb := b s us KX (by rw [List.append_nil]; exact hlu)
  rw [List.append_nil] at hb
  refine run_ofS lk hcd S hr e0 hb r hl fun hr' => ?_
  obtain ⟨t, h, q⟩ := hbody f cdv A outer s H vs Q hr' C nf hsp
  exact ⟨t, h.nox, q⟩
end
/-- the call of such a def: C, what must hold of the slots for the cells to hold ws -/
def tCallM (sp : Addr → Addr → Sp) (C : L2.St → Prop) (t : TA) : TE := fun σ H Q => C σ ∧ ∃ f c', t σ H fun vs H1 => sp f c' vs H1 Q C8.E0
section
variable {X : Cx} {t : TA} {e : Expr} {es : List Expr} {p pos : PySem.Pos} {x : Str} {k j : Nat} {fr : List Str} {ws : List (Option V)}
theorem run_after {pins : List (Addr × Obj)} {σ : L2.St} {H : Hp} {s : Shared} {Q : VK} {g : Addr} {us : List Value} (I : Inv X pins σ H s) (h : codeAny (model X.prog X.w) X.A (.call (.ref g) ⟨us, []⟩) (CR C8.CX0 X.stack X.prog X.w H s Q C8.E0) s) :
    wpAny (model X.prog X.w) X.A (call (.ref g) us) (EP X pins σ Q) X.xe s := by
  refine wpAny_call (codeAny_mono h fun r s' hq => ?_)
  cases r with
  | error e => exact (show False from hq).elim
  | ok fl =>
    cases fl with
    | ret u => exact I.after hq
    | next => exact False.elim hq
    | brk => exact False.elim hq
    | cont => exact False.elim hq
theorem pe_callM {sp : Addr → Addr → Sp} {cl : List (Str × Addr)} {C : L2.St → Prop} (Fn : ∀ f c', CalM X.prog X.w X.K X.mg X.base k x cl fr ws (sp f c')) (hr : Room j X.A) (hk : k ≤ j) (hg : Gl X x)
    (hcell : ∀ pins σ H s, Inv X pins σ H s → C σ → CellsAt cl fr ws s.heap H ∧ ∀ y c, cl.lookup y = some c → c ∉ frs X.stack) (ha : PA X (e :: es) t) (hdb : (x == ("__debug__" : Str)) = false := by decide)
    (he : starEach (e :: es) X.env = (false, eval e X.env) :: starEach es X.env := by rfl) (hpl : (backTo pos (starEach es X.env)).any (·.1) = false := by rfl) : PE X (.Call (.Name x p) (e :: es) [] pos) (tCallM sp C t) := by
  refine ⟨fun pins s σ H Q I h => ?_⟩
  obtain ⟨hC, f, c', h⟩ := h
  obtain ⟨g, F, hm, hkp⟩ := Fn f c'
  refine wpAny_Call_Name_kw (ld_glob I hg hm ?_ hdb)
  refine PySem.W.callWith_K (h₀ := X.base) I.ok.mod.kin hkp (thn (ha.run pos pins s σ H _ I h) fun us s1 ⟨vs, H1, I1, r, q⟩ => ⟨I1.kIn, ?_⟩) he hpl
  obtain ⟨c1, c2⟩ := hcell pins σ H1 s1 I1 hC
  exact run_after I1 (F X.A X.stack s1 H1 us vs Q (hr.mono hk) I1.env0 r c1 c2 q)
/-- the call of a function that a name holds; its cells belong to another frame -/
def tCallA (f : Addr) (F : NF) (i : Nat) (ws : List (Option V)) (sp : List (Option V) → Sp) (t : TA) : TE := fun σ H Q => σ[i]? = some (some (.ref f)) ∧ H f = some (FnO f F) ∧
  t σ H fun vs H1 => H1 f = some (FnO f F) ∧ H1 F.c = some (CodeO F.c F.qual) ∧ sp ws vs H1 Q C8.E0
theorem pe_callA {f : Addr} {F : NF} {ps : List Str} {sp : List (Option V) → Sp} {i : Nat} (Fn : NOk X.prog X.w X.K X.mg X.base C8.CX0 k f F ps fr sp) (C : CellsAt F.cl fr ws X.s_0.heap X.H_0) (nf : ∀ y c, F.cl.lookup y = some c → c ∉ X.fs) (hx : X.ex = []) (hr : Room j X.A) (hk : k ≤ j)
    (hN : X.N[i]? = some x) (hv : Vis X.env.scope x) (ha : PA X (e :: es) t) (hd : (x == ("__debug__" : Str)) = false := by decide) (hcd : (x == ("__classdict__" : Str)) = false := by decide)
    (he : starEach (e :: es) X.env = (false, eval e X.env) :: starEach es X.env := by rfl) (hpl : (backTo pos (starEach es X.env)).any (·.1) = false := by rfl) :
    PE X (.Call (.Name x p) (e :: es) [] pos) (tCallA f F i ws sp t) := by
  refine ⟨fun pins s σ H Q I h => ?_⟩
  obtain ⟨hs, hf, ht⟩ := h
  refine wpAny_Call_Name_kw (thn ((pe_var (pos := p) hN hv hd hcd).run pins s σ H (fun v H1 => v = .ref f ∧ H1 = H) I ⟨.ref f, hs, rfl, rfl⟩) fun u s1 ⟨v, H1, I1, r1, q1⟩ => ?_)
  obtain ⟨ev, eH⟩ := q1
  subst ev
  rw [eH] at I1
  obtain rfl : u = Value.ref f := r1
  refine PySem.W.callWith_F (first := []) (fnAt_of I1 hf) (thn (ha.run pos pins s1 σ H _ I1 ht) fun us s2 ⟨vs, H2, I2, r, h1, h2, q⟩ => ⟨fnAt_of I2 h1, ?_⟩) he hpl
  have C2 := C.later nf (fun y c _ => by rw [hx]; exact List.not_mem_nil) I2
  exact run_after I2 (Fn.run X.A X.stack s2 H2 us vs ws Q C8.E0 (hr.mono hk) I2.env0 h1 h2 C2 r q)
/-- cells of the running def lie behind every frame -/
theorem cells_nf {pins : List (Addr × Obj)} {σ : L2.St} {H : Hp} {s : Shared} (I : Inv X pins σ H s) (hfn : ∀ y, X.fn y = true) {y : Str} {c : Addr} (h : X.env.cells.lookup y = some c) : c ∉ frs X.stack := by
  intro z
  rcases List.mem_cons.mp (I.stkSub _ z) with e | e
  · exact I.cne y c h e
  · have h1 := I.ok.cab y c (hfn y) h
    obtain ⟨n1, ob, e1, _⟩ := I.ok.funs.mem e
    exact absurd (Heap.lt_size e1) (Nat.not_lt.mpr h1)
end
end G6

set_option autoImplicit false
set_option Elab.async false
set_option linter.all false
set_option maxRecDepth 100000
set_option maxHeartbeats 4000000
/-! raised: lift, mapped. -/
namespace G6
open PySem PySem.Spec PyProof.Rows L2 NdefX LamX
section
variable {P : Program} {w : World} {K : PySem.W.Frag} {mg : Str → Option Value} {base : Heap} {T : List NdefX.NTab}
abbrev sLift : Stmt := (C8.fnBody sRaised).getD 0 (.Pass ⟨0, 0, 0, 0⟩)
def ws1 : List (Option V) := [some (.int 1), some (.int 1)]
def spLift (T : List NdefX.NTab) (K : PySem.W.Frag) : List (Option V) → Sp := fun ws vs H Q _ => ws = ws1 ∧ ∃ (v : V) (p : Pt) (n : Nat), vs = [v, .int (n : Int)] ∧ PartV K H v p ∧ (∀ w d b, p ≠ .box w d b) ∧ ∀ (u : V) (H' : Hp), Gr T none H H' → PlanV K H' u [(1, rzP (n + 1) p)] → Q u H'
theorem one_plan {H : Hp} {p : Pt} {v : V} (h : PartV K H v p) {t1 t2 : Addr} (n1 : H t1 = none) (n2 : upd H t1 (.tup [.int 1, v]) t2 = none) : PlanV K (upd (upd H t1 (.tup [.int 1, v])) t2 (.tup [.ref t1])) (.ref t2) [(1, p)] := by
  have g1 : Gr [] none H (upd H t1 (.tup [.int 1, v])) := gr_new n1
  have g2 : Gr [] none (upd H t1 (.tup [.int 1, v])) (upd (upd H t1 (.tup [.int 1, v])) t2 (.tup [.ref t1])) := gr_new n2
  exact PlanV.mk (SqT.of upd_same) (.cons (ItemV.mk (c := 1) (g2.sqt0 (SqT.of upd_same)) (g2.tp (g1.tp h))) .nil)
theorem ok_lift (f : Addr) (qual : Str) (cl : List (Str × Addr)) (c : Addr) : NOk P w K mg base C8.CX0 1 f (NF.of sLift "lift" qual cl c) ["part", "depth"] ["by", "least"] (spLift T K) := by
  refine nok_of (N := ["part", "depth", "by", "least"]) (NdefX.nscope_by (sc := C8.fnScope sLift) (by decide +kernel)) (fun _ _ _ us hl => match us, hl with | [_, _], _ => rfl) (fun ws vs H Q E h => ?_) (fun A outer s H vs ws Q E hr hf hc hw h => ?_)
  · obtain ⟨_, v, p, n, rfl, _⟩ := h; rfl
  obtain ⟨rfl, v, p, n, rfl, hv, hb, q⟩ := h
  refine ⟨_, pss_cons (ps_if (PW.pt (pw_and (pt_cmpR op_eq (pe_ix ix_tup (pv 0) pe_int (fun _ _ => rfl)) pe_str (nomark _)) (pw_and1 (pt_cmpR op_ge (pe_ix ix_tup (pv 0) pe_int (fun _ _ => rfl)) (pe_op op_add (pv 1) (pv 3)) (nomark _)))))
      (pss_one (ps_ret (pe_tup (pa_cons (pe_tup (pa_cons pe_int (pa_cons (pe_tup (pa_cons pe_str (pa_cons (pe_op op_add (pe_ix ix_tup (pv 0) pe_int (fun _ _ => rfl)) (pv 2)) pa_nil))) pa_nil))) pa_nil)))) pss_nil)
    (pss_one (ps_ret (pe_tup (pa_cons (pe_tup (pa_cons pe_int (pa_cons (pv 0) pa_nil))) pa_nil)))), ?_⟩
  cases p with
  | name x =>
    obtain ⟨a, rfl, hS⟩ := hv.name_inv
    refine rd_ixEq (i := 0) (k := 0) rfl hS rfl false (by decide) (iteF (iteF ⟨.ref a, rfl, by show 2 ≤ sizeLine; decide, fun t1 n1 => ⟨by show 1 ≤ sizeLine; decide, fun t2 n2 => ?_⟩⟩))
    refine q _ _ ((gr_new n1).trans (gr_new n2)) ?_
    rw [rzP_name]
    exact one_plan hv n1 n2
  | got d =>
    obtain ⟨a, rfl, hS⟩ := hv.got_inv
    refine rd_ixEq (i := 0) (k := 0) rfl hS rfl true (by decide) (iteT (rd_ix (i := 0) (k := 1) rfl hS rfl ⟨.int (n : Int), rfl, .int 1, rfl, (n : Int), 1, rfl, rfl, (d : Int), (n : Int) + 1, rfl, rfl, decide (n + 1 ≤ d), ?_, ?_⟩))
    · exact congrArg V.bl (decide_eq_decide.mpr ⟨fun z => by omega, fun z => by omega⟩)
    by_cases hd : n + 1 ≤ d
    · rw [decide_eq_true hd]
      refine iteT (rd_ix (i := 0) (k := 1) rfl hS rfl ⟨.int 1, rfl, (d : Int), 1, rfl, rfl, by show 2 ≤ sizeLine; decide, fun t0 n0 => ⟨by show 2 ≤ sizeLine; decide, fun t1 n1 => ⟨by show 1 ≤ sizeLine; decide, fun t2 n2 => ?_⟩⟩⟩)
      refine q _ _ (((gr_new n0).trans (gr_new n1)).trans (gr_new n2)) ?_
      rw [rzP_got, if_pos hd]
      have z2 : (((d + 1 : Nat)) : Int) = (d : Int) + 1 := by push_cast; rfl
      exact one_plan (PartV.got_mk (by rw [z2]; exact SqT.of upd_same)) n1 n2
    · rw [decide_eq_false hd]
      refine iteF ⟨.ref a, rfl, by show 2 ≤ sizeLine; decide, fun t1 n1 => ⟨by show 1 ≤ sizeLine; decide, fun t2 n2 => ?_⟩⟩
      refine q _ _ ((gr_new n1).trans (gr_new n2)) ?_
      rw [rzP_got, if_neg hd]
      exact one_plan hv n1 n2
  | box w d b => exact absurd rfl (hb w d b)
theorem push_item {H H4 H6 : Hp} {Da : Addr} {zs : List V} {l : Pl} {v : V} {q : Nat × Pt} (nDa : H Da = none) (g : Gr T none H H4) (eD : H4 Da = some (.lst zs)) (hz : ItemsV K H4 zs l) (g6 : Gr T none H4 H6) (it : ItemV K H6 v q) :
    H6 Da = some (.lst zs) ∧ Gr T none H (upd H6 Da (.lst (zs ++ [v]))) ∧ ItemsV K (upd H6 Da (.lst (zs ++ [v]))) (zs ++ [v]) (l ++ [q]) := by
  have e6 := g6.lst eD
  have keep : ∀ a ys, SqT K H6 a ys → SqT K (upd H6 Da (.lst (zs ++ [v]))) a ys := fun a ys z => sqt_upd e6 z
  exact ⟨e6, (g.trans g6).mut nDa e6 (fun _ z => by cases z) (fun _ _ z => by cases z), ItemsV.snoc (TpAll.ext keep _ _ (g6.tpAll hz)) (Tp.ext keep _ _ it)⟩
def spMapped (T : List NdefX.NTab) (K : PySem.W.Frag) (D : Nat) (f : Addr) (F : NF) : Sp := fun vs H Q _ => ∃ (v : V) (b : Pl) (n m : Nat), vs = [v, .int (n : Int), .ref f] ∧ PlanV K H v b ∧ FitL m b ∧ dpL b < D ∧ H f = some (FnO f F) ∧ H F.c = some (CodeO F.c F.qual) ∧
  ∀ (u : V) (H' : Hp), Gr T none H H' → PlanV K H' u (rzL (n + 1) b) → Q u H'
theorem scMapped : FnScope ["plan", "depth", "action", "found", "count", "part", "many", "other"] ["plan", "depth", "action"] (C8.fnScope sMapped) := C8.fnScope_by (by decide +kernel)
theorem ok_mapped1 (Dm : DefN K mg "mapped" sMapped ["plan", "depth", "action"]) (X : Txt mg) {f : Addr} {F : NF} (Fn : NOk P w K mg base C8.CX0 1 f F ["part", "depth"] ["by", "least"] (spLift T K)) {n0 : Nat}
    (cM : CalM P w K mg base (n0 + 2) "mapped" F.cl ["by", "least"] ws1 (spMapped T K n0 f F)) : CalM P w K mg base (n0 + 3) "mapped" F.cl ["by", "least"] ws1 (spMapped T K (n0 + 1) f F) := by
  refine mkCalM Dm scMapped (fun vs H Q E h => ?_) (fun fm cdv A outer s H vs Q hr C nf h => ?_)
  · obtain ⟨v, b, n, m, rfl, _⟩ := h; rfl
  obtain ⟨v, b, n, m, rfl, hv, hg, hd, hf, hc, q⟩ := h
  obtain ⟨a, xs, rfl, hS, hI⟩ := hv.inv
  have hst : ∀ y c, F.cl.lookup y = some c → c ∉ s.heap.objs.size :: frs outer := fun y c h z => by
    rcases List.mem_cons.mp z with e | e
    · obtain ⟨_, v, o, ho, _⟩ := C.all y c h
      exact absurd e (Nat.ne_of_lt (Heap.lt_size ho))
    · exact nf y c h e
  refine ⟨_, pss_cons (ps_set (i := 3) scMapped.nd rfl (.inl rfl) (pe_lst pa_nil))
    (pss_cons (ps_for PassesOwn.never rfl (pi_tup (pv 0)) (pg_tup rfl (pgs_cons (pg_name (i := 4) scMapped.nd rfl (by first | exact Or.inl rfl | exact Or.inr rfl)) (pgs_cons (pg_name (i := 5) scMapped.nd rfl (by first | exact Or.inl rfl | exact Or.inr rfl)) pgs_nil)))
      (pss_one (ps_if (pt_cmpR op_eq (pe_ix ix_tup (pv 5) pe_int (fun _ _ => rfl)) pe_str (nomark _))
        (pss_one (ps_expr (pe_bm PySem.F.plainAttrs_list PySem.F.slot_list_append PySem.F.type_list_append mt_append (pv 3) (pa_cons (pe_tup (pa_cons (pv 4) (pa_cons (pe_tup (pa_cons pe_str (pa_cons (pe_ix ix_tup (pv 5) pe_int (fun _ _ => rfl)) (pa_cons
          (pe_callM (C := fun _ => True) (fun _ _ => cM) hr (Nat.le_refl _) (by rfl) (fun pins σ H1 s1 I _ => ⟨C.later nf (fun y c _ => List.not_mem_nil) I, hst⟩) (pa_cons (pe_ix ix_tup (pv 5) pe_int (fun _ _ => rfl)) (pa_cons (pv 1) (pa_cons (pv 2) pa_nil)))) pa_nil)))) pa_nil))) pa_nil))))
        (pss_one (ps_if (pt_cmpR op_eq (pe_ix ix_tup (pv 5) pe_int (fun _ _ => rfl)) pe_str (nomark _))
          (pss_one (ps_expr (pe_bm PySem.F.plainAttrs_list PySem.F.slot_list_append PySem.F.type_list_append mt_append (pv 3) (pa_cons (pe_tup (pa_cons (pv 4) (pa_cons (pe_tup (pa_cons pe_str (pa_cons (pe_ix ix_tup (pv 5) pe_int (fun _ _ => rfl)) (pa_cons
            (pe_callM (C := fun _ => True) (fun _ _ => cM) hr (Nat.le_refl _) (by rfl) (fun pins σ H1 s1 I _ => ⟨C.later nf (fun y c _ => List.not_mem_nil) I, hst⟩) (pa_cons (pe_ix ix_tup (pv 5) pe_int (fun _ _ => rfl)) (pa_cons (pe_op op_add (pv 1) pe_int) (pa_cons (pv 2) pa_nil)))) pa_nil)))) pa_nil))) pa_nil))))
          (pss_one (ps_expr (pe_bm PySem.F.plainAttrs_list PySem.F.slot_list_extend PySem.F.type_list_extend mt_extend (pv 3) (pa_cons
            (pe_lc (own := [("many", 6), ("other", 7)]) (g := gTup K 2 (gCons (gName 6) (gCons (gName 7) gNil))) (tt := tYes) rfl scMapped.nd (pi_tup (pe_callA Fn C nf rfl hr (by omega) (i := 2) rfl (by first | exact Or.inl rfl | exact Or.inr (Or.inl rfl)) (pa_cons (pv 5) (pa_cons (pv 1) pa_nil))))
              (blkOk_by (N := ["plan", "depth", "action", "found", "count", "part", "many", "other"]) (sc := C8.fnScope sMapped) (by decide +kernel))
              (fun _ _ _ _ _ => pg_tup rfl (pgs_cons (pg_name (i := 6) scMapped.nd rfl (Or.inl rfl)) (pgs_cons (pg_name (i := 7) scMapped.nd rfl (Or.inl rfl)) pgs_nil))) (fun _ _ _ _ _ => pts_nil)
              (fun _ _ _ _ _ => pe_tup (pa_cons (pe_op op_mul (pv 4) (pv 6)) (pa_cons (pv 7) pa_nil)))) pa_nil)))))))))
    (pss_one (ps_ret (pe_tupleOf (by rfl) X.tuple (pv 3))))), ?_⟩
  have hxl : xs.length = b.length := hI.len
  refine ⟨Nat.zero_le _, fun Da nDa => ⟨.ref a, rfl, a, rfl, ⟨xs, (gr_new (T := T) (t := none) nDa).sqt0 hS⟩, for_it walk_tup (fun i σ H3 => ∃ y1 y2 zs, σ = [some (.ref a), some (.int (n : Int)), some (.ref f), some (.ref Da), y1, y2, none, none] ∧ Gr T none H H3 ∧ H3 Da = some (.lst zs) ∧ ItemsV K H3 zs ((b.take i).map fun q => (q.1, rzP (n + 1) q.2)))
    ⟨none, none, [], rfl, gr_new nDa, upd_same, .nil⟩ (fun i σ H3 _ ⟨_, _, _, _, g, _⟩ => g.sqt0 hS) (fun i x σ H3 H4 hi hP hY => ?_) (fun σ H3 hP => ?_)⟩⟩
  · obtain ⟨y1, y2, zs, rfl, g, eD, hz⟩ := hP
    obtain ⟨rfl, hx⟩ := hY
    have hib : i < b.length := by omega
    obtain ⟨x', hx', ht⟩ := hI.get (List.getElem?_eq_getElem hib)
    rw [hx] at hx'
    cases hx'
    have hmem := List.getElem_mem hib
    have hfp := hg.mem hmem
    have hdm := dp_mem hmem
    have hcnt := hg.cnt hmem
    rw [take_snoc _ (List.getElem?_eq_getElem hib)]
    have hzl : zs.length ≤ 4000 := by
      have h1 := hz.len
      rw [List.length_map, List.length_take] at h1
      have := hg.len
      omega
    generalize b[i] = q at ht hfp hdm hcnt ⊢
    obtain ⟨c0, p⟩ := q
    obtain ⟨ia, u, rfl, hS2, hu⟩ := ht.inv
    have hS2' := g.sqt0 hS2
    have hu' : PartV K H4 u p := g.tp hu
    have hf4 : H4 f = some (FnO f F) := g.keep f _ hf (fun z => nomatch z) fnO_ne
    have hc4 : H4 F.c = some (CodeO F.c F.qual) := g.keep F.c _ hc (fun z => nomatch z) codeO_ne
    have hsz : zs.length < sizeLine := by show _ < 2 ^ 24; omega
    refine ⟨ia, _, rfl, hS2', rfl, _, _, rfl, _, _, rfl, rfl, ?_⟩
    by_cases hbx : ∃ wt d bb, p = .box wt d bb
    · obtain ⟨wt, d, bb, rfl⟩ := hbx
      obtain ⟨pa, pu, rfl, hpS, hpb⟩ := hu'.box_inv
      have hbb := hfp.body.2
      rw [dp_box] at hdm
      cases wt with
      | false =>
        refine rd_ixEq (i := 5) (k := 0) rfl hpS rfl true (by decide) (iteT ⟨.ref Da, rfl, .inl ⟨rfl, zs, SqL.of eD⟩, .int (c0 : Int), rfl, rd_ix (i := 5) (k := 1) rfl hpS rfl ⟨trivial, f, f, rd_ix (i := 5) (k := 2) rfl hpS rfl ⟨.int (n : Int), rfl, .ref f, rfl, pu, bb, n, m, rfl, hpb, hbb, by omega, hf4, hc4, fun r H5 g5 hr5 => ?_⟩⟩⟩)
        refine ⟨by show 3 ≤ sizeLine; decide, fun t1 n1 => ⟨by show 2 ≤ sizeLine; decide, fun t2 n2 => ?_⟩⟩
        have gx := gr_new (T := T) (t := none) n1 (o := .tup [.str "letter", .str (S d), r])
        have gy := gr_new (T := T) (t := none) n2 (o := .tup [.int (c0 : Int), .ref t1])
        obtain ⟨e6, g7, z7⟩ := push_item nDa g eD hz ((g5.trans gx).trans gy) (ItemV.mk (c := c0) (SqT.of upd_same) (gy.tp (PartV.box_mk (w := false) (SqT.of upd_same) (gx.tp hr5))))
        exact ⟨Da, zs, _, rfl, rfl, e6, hsz, _, _, _, rfl, g7, upd_same, by rw [rzP_box]; exact z7⟩
      | true =>
        refine rd_ixEq (i := 5) (k := 0) rfl hpS rfl false (by decide) (iteF ?_)
        refine rd_ixEq (i := 5) (k := 0) rfl hpS rfl true (by decide) (iteT ⟨.ref Da, rfl, .inl ⟨rfl, zs, SqL.of eD⟩, .int (c0 : Int), rfl, rd_ix (i := 5) (k := 1) rfl hpS rfl ⟨trivial, f, f, rd_ix (i := 5) (k := 2) rfl hpS rfl ⟨.int (n : Int), rfl, (n : Int), 1, rfl, rfl, .ref f, rfl, pu, bb, n + 1, m + 1, rfl, hpb, hbb, by omega, hf4, hc4, fun r H5 g5 hr5 => ?_⟩⟩⟩)
        refine ⟨by show 3 ≤ sizeLine; decide, fun t1 n1 => ⟨by show 2 ≤ sizeLine; decide, fun t2 n2 => ?_⟩⟩
        have gx := gr_new (T := T) (t := none) n1 (o := .tup [.str "wait", .str (S d), r])
        have gy := gr_new (T := T) (t := none) n2 (o := .tup [.int (c0 : Int), .ref t1])
        obtain ⟨e6, g7, z7⟩ := push_item nDa g eD hz ((g5.trans gx).trans gy) (ItemV.mk (c := c0) (SqT.of upd_same) (gy.tp (PartV.box_mk (w := true) (SqT.of upd_same) (gx.tp hr5))))
        exact ⟨Da, zs, _, rfl, rfl, e6, hsz, _, _, _, rfl, g7, upd_same, by rw [rzP_box]; exact z7⟩
    · have hnb : ∀ w d b, p ≠ .box w d b := fun w d b z => hbx ⟨w, d, b, z⟩
      obtain ⟨pa, pxs, l, rfl, hpS, hw, _⟩ := part_at hu'
      have w1 : decide (wordS p = "letter") = false := by
        cases p with
        | name x => exact decide_eq_false (by show ("name" : Str) ≠ "letter"; decide)
        | got x => exact decide_eq_false (by show ("got" : Str) ≠ "letter"; decide)
        | box w d b => exact absurd rfl (hnb w d b)
      have w2 : decide (wordS p = "wait") = false := by
        cases p with
        | name x => exact decide_eq_false (by show ("name" : Str) ≠ "wait"; decide)
        | got x => exact decide_eq_false (by show ("got" : Str) ≠ "wait"; decide)
        | box w d b => exact absurd rfl (hnb w d b)
      refine rd_ixEq (i := 5) (k := 0) rfl hpS hw false w1 (iteF ?_)
      refine rd_ixEq (i := 5) (k := 0) rfl hpS hw false w2 (iteF ?_)
      refine ⟨.ref Da, rfl, .inl ⟨rfl, zs, SqL.of eD⟩, rfl, hf4, .ref pa, rfl, .int (n : Int), rfl, hf4, hc4, rfl, .ref pa, p, n, rfl, hu', hnb, fun r H5 g5 hr5 => ?_⟩
      obtain ⟨ra, rxs, rfl, hrS, hrI⟩ := hr5.inv
      obtain ⟨r0, rxs, rfl, hr0, hr1⟩ := TpAll.cons_inv (show TpAll K H5 rxs (itemD (1, rzP (n + 1) p) :: []) from hrI)
      cases hr1.nil_inv
      obtain ⟨ib, pu', rfl, hibS, hibp⟩ := ItemV.inv (q := (1, rzP (n + 1) p)) hr0
      refine ⟨ra, rfl, ⟨_, hrS⟩, fun Dl nDl => lc_it walk_tup (fun i H6 => Gr T none H5 H6 ∧ ∃ vs, H6 Dl = some (.lst vs) ∧ ItemsV K H6 vs (([(c0, rzP (n + 1) p)] : Pl).take i)) ⟨gr_new nDl, [], upd_same, .nil⟩ (fun _ _ _ hP => hP.1.sqt0 hrS) (fun i2 x H6 H7 hi2 hP hY => ?_) (fun H6 hP => ?_)⟩
      · obtain ⟨g6, vs, e6, hvs⟩ := hP
        obtain ⟨rfl, hx2⟩ := hY
        have e0 : i2 = 0 := by
          have : i2 < 1 := hi2
          omega
        subst e0
        have hx3 : V.ref ib = x := Option.some.inj hx2
        subst hx3
        cases hvs.nil_inv
        refine ⟨ib, _, rfl, g6.sqt0 hibS, rfl, _, _, rfl, _, _, rfl, rfl, rfl, .int (c0 : Int), rfl, .int ((1 : Nat) : Int), rfl, (c0 : Int), ((1 : Nat) : Int), rfl, rfl, .inl ⟨by omega, by have : c0 < 2 ^ 64 := hcnt; omega⟩, pu', rfl, by show 2 ≤ sizeLine; decide, fun t1 n1 => ?_⟩
        have gx := gr_new (T := T) (t := none) n1 (o := .tup [.int ((c0 : Int) * ((1 : Nat) : Int)), pu'])
        have z2 : (c0 : Int) * ((1 : Nat) : Int) = (c0 : Int) := by push_cast; omega
        have zS : SqT K (upd H7 t1 (.tup [.int ((c0 : Int) * ((1 : Nat) : Int)), pu'])) t1 [.int (c0 : Int), pu'] := by
          rw [z2]
          exact SqT.of upd_same
        obtain ⟨e8, g8, z8⟩ := push_item (l := []) nDl g6 e6 .nil gx (ItemV.mk (c := c0) zS (gx.tp (g6.tp hibp)))
        exact ⟨[], e8, by show 0 < sizeLine; decide, g8, _, upd_same, z8⟩
      · obtain ⟨g6, vs, e6, hvs⟩ := hP
        obtain ⟨v1, vs, rfl, hv1, hv2⟩ := TpAll.cons_inv (show TpAll K H6 vs (itemD (c0, rzP (n + 1) p) :: []) from hvs)
        cases hv2.nil_inv
        obtain ⟨e8, g8, z8⟩ := push_item nDa g eD hz (g5.trans g6) (show ItemV K H6 v1 (c0, rzP (n + 1) p) from hv1)
        exact ⟨Da, Dl, zs, [v1], rfl, rfl, e8, e6, by show zs.length + 1 ≤ sizeLine; omega, _, _, _, rfl, g8, upd_same, z8⟩
  · obtain ⟨y1, y2, zs, rfl, g, eD, hz⟩ := hP
    rw [List.take_of_length_le (by omega), ← rzL_map] at hz
    refine ⟨.ref Da, rfl, .inl ⟨Da, zs, rfl, SqL.of eD, fun pt npt => ?_⟩⟩
    have g4 : Gr T none H3 (upd H3 pt (.tup zs)) := gr_new npt
    exact q _ _ (g.trans g4) (PlanV.mk (SqT.of upd_same) (g4.tpAll hz))
theorem ok_mapped (Dm : DefN K mg "mapped" sMapped ["plan", "depth", "action"]) (X : Txt mg) {f : Addr} {F : NF} (Fn : NOk P w K mg base C8.CX0 1 f F ["part", "depth"] ["by", "least"] (spLift T K)) :
    ∀ D, CalM P w K mg base (D + 2) "mapped" F.cl ["by", "least"] ws1 (spMapped T K D f F)
  | 0 => by
    obtain ⟨g, fd, F', b⟩ := Dm.ex
    refine ⟨g, fun A outer s H us vs Q hr e0 r C nf hsp => ?_, F'.mgf, F'.kp⟩
    obtain ⟨v, b, n, m, _, _, _, hd, _⟩ := hsp
    omega
  | D + 1 => ok_mapped1 Dm X Fn (ok_mapped Dm X Fn D)
end
section
variable {P : Program} {w : World} {K : PySem.W.Frag} {mg : Str → Option Value} {base : Heap} {T' : List (Addr × Str)}
def spRaised (T' : List (Addr × Str)) (K : PySem.W.Frag) (D : Nat) : Sp := fun vs H Q _ => ∃ (v : V) (b : Pl) (m : Nat), vs = [v, .int 1, .int 1] ∧ PlanV K H v b ∧ FitL m b ∧ dpL b < D ∧ TabsN (nT T') H ∧ ∀ (u : V) (H' : Hp), Gr (nT T') none H H' → PlanV K H' u (rzL 1 b) → Q u H'
theorem scRaised : FnScope ["plan", "by", "least", "lift"] ["plan", "by", "least"] (C8.fnScope sRaised) := C8.fnScope_by (by decide +kernel)
theorem lift_cap : ndefB (C8.fnScope sRaised) (C8.fnScope sLift) ["by", "least"] = true := by decide +kernel
theorem ok_raised {c Pt' : Addr} (Df : DefC K mg "raised" sRaised ["plan", "by", "least"] c) (Dm : DefN K mg "mapped" sMapped ["plan", "depth", "action"]) (X : Txt mg) (Tb : TabF base mg T' c Pt' "raised.<locals>.lift") (D : Nat) :
    C8.Cal P w K mg base (D + 3) "raised" (spRaised T' K D) [] := by
  refine mkCalC Df scRaised (fun vs H Q E h => ?_) (fun f A outer s H vs Q E hr h => ?_)
  · obtain ⟨v, b, m, rfl, _⟩ := h; rfl
  obtain ⟨v, b, m, rfl, hv, hg, hd, hT, q⟩ := h
  have eq1 : (("raised" : Str) ++ ".<locals>.") ++ "lift" = "raised.<locals>.lift" := by decide +kernel
  refine ⟨_, pss_cons (ps_ndefMS (st := sLift) (T := nT T') (nm := fun _ _ => "raised.<locals>.lift") (c := c) (P := Pt') (name := "lift") (i := 3) rfl Tb.tb rfl (List.mem_map.mpr ⟨_, Tb.mem, rfl⟩) eq1.symm
        (fun p hp e => by obtain ⟨y, hy, rfl⟩ := List.mem_map.mp hp; rw [← Tb.uni y hy e]) (ndef_free lift_cap) (by rfl) (by rfl) (by rfl) scRaised.nd rfl (.inl rfl) (.inl rfl))
    (pss_one (ps_ret (pe_callM (C := fun σ => σ[1]? = some (some (.int 1)) ∧ σ[2]? = some (some (.int 1))) (fun f' c' => ok_mapped (T := nT T') Dm X (ok_lift f' ((("raised" : Str) ++ ".<locals>.") ++ "lift") (cloFrom (envOfC "raised" (C8.fnScope sRaised) s.heap.objs.size f (.ref c)).cells (C8.fnScope sLift).names []) c') D)
      hr (Nat.le_refl _) (by rfl) (fun pins σ H1 s1 I hC => ?_) (pa_cons (pv 0) (pa_cons pe_int (pa_cons (pv 3) pa_nil)))))), ?_⟩
  · have cp := cells_of I (Caps.made (js := [1, 2]) I.ok (ndef_free lift_cap) (ndef_fr lift_cap) rfl)
    have e1 : ([1, 2] : List Nat).map (slotAt σ) = ws1 := by
      show [slotAt σ 1, slotAt σ 2] = ws1
      rw [slotAt_of hC.1, slotAt_of hC.2]
      rfl
    rw [e1] at cp
    refine ⟨cp, fun y cc h => cells_nf I (fun _ => rfl) (clo_cm (cells := (envOfC "raised" (C8.fnScope sRaised) s.heap.objs.size f (.ref c)).cells) (names := (C8.fnScope sLift).names) (fun y hy e => ?_) h)⟩
    exact (ndef_free lift_cap y hy e).elim (fun z => I.ok.has _ (.inl z)) fun z => I.ok.has _ (.inr z)
  · refine ⟨hT, fun f' c' H1 eN nn T1 f0 f1 c1 => ⟨⟨rfl, rfl⟩, f', c', v, rfl, .ref f', rfl, v, b, 0, m, rfl, ?_, hg, hd, f1, c1, fun u H' g h => ?_⟩⟩
    · exact Gr.tp (T := nT T') ⟨fun b o h _ n => eN b o h n, fun _ => T1, nn⟩ hv
    · exact q u H' (Gr.trans ⟨fun b o h _ n => eN b o h n, fun _ => T1, nn⟩ g) h
end
end G6

set_option autoImplicit false
set_option Elab.async false
set_option linter.all false
set_option maxRecDepth 100000
set_option maxHeartbeats 4000000
/-! enumerate over a tuple. -/
namespace PySem
open Sem (wp)
open AutoSeq1 (wpAny_loadPart')
theorem meets_enumT (l : Addr) (items : Array Value) (n : Nat) (dct : Option Addr) (sl : Array (Option Value)) :
    Meets (Builtin.«enumerate.__new__» ⟨[.type "enumerate", .ref l], []⟩) (fun _ R s => s.heap.get? l = some { cls := .type "tuple", dict := dct, data := .seq items n, slots := sl } ∧
      R (.ok (.ret (.ref (s.heap.push { cls := .type "tuple_iterator", data := .fields #[.ref l, .int 0 0] }).objs.size)))
        { s with heap := (s.heap.push { cls := .type "tuple_iterator", data := .fields #[.ref l, .int 0 0] }).push { cls := .type "enumerate", data := .fields #[.none, .bool false, .ref s.heap.objs.size, rawInt 0, .none, .none] } }) :=
  .of_wp fun prog w A R s h => by
    obtain ⟨hp, g, d, tk, os⟩ := s; obtain ⟨hl, h⟩ := h
    have hsub := sub_enumerate
    have hL : Heap.IsTuple (Shared.heap ⟨hp, g, d, tk, os⟩) l items := ⟨_, hl, rfl, n, rfl⟩
    wp_walk using wpAny_loadPart' hl
    refine wpAny_stack_any fun st => wpAny_pure ?_
    split
    · rename_i c _ _ _ _ _
      cases (c == Value.type "enumerate")
      · wp_walk using wpAny_loadPart' hl, wpAny_pyIter_tuple hL
        exact ⟨_, rfl, h⟩
      · wp_walk using wpAny_loadPart' hl, wpAny_pyIter_tuple hL
        exact ⟨_, rfl, h⟩
    · wp_walk using wpAny_loadPart' hl, wpAny_pyIter_tuple hL
      exact ⟨_, rfl, h⟩
section
variable {prog : Program} {w : World} {A : Around} {E : Value → Shared → Prop} {s : Shared}
theorem call_enumT {l : Addr} {items : Array Value} {Q : Value → Shared → Prop} (hL : s.heap.IsTuple l items)
    (h : ∀ h', IsEnum h' (s.heap.objs.size + 1) s.heap.objs.size 0 .none → h'.IsTupleIter s.heap.objs.size l 0 → h'.objs.size = s.heap.objs.size + 2 →
      (∀ b o, s.heap.get? b = some o → h'.get? b = some o) → Q (.ref (s.heap.objs.size + 1)) { s with heap := h' }) :
    wpAny (model prog w) A (call (.type "enumerate") [.ref l]) Q E s := by
  obtain ⟨⟨c, dct, dt, sl⟩, hl, hc, n, hd⟩ := hL
  replace hc : c = .type "tuple" := hc
  replace hd : dt = .seq items n := hd
  subst hc hd
  refine callType_new F.called_enumerate (by decide) (F.typeCall_enumerate_1 _) (F.newCall_enumerate_1 _) (fun obj => F.args_object_init_2 obj _) F.entry_enumerate_new
    (meets_enumT l items n dct sl) ⟨hl, ?_⟩
  have hz : (s.heap.push { cls := .type "tuple_iterator", data := .fields #[.ref l, .int 0 0] }).objs.size = s.heap.objs.size + 1 := Heap.size_push ..
  show _ ∧ _
  rw [hz]
  have he : IsEnum ((s.heap.push { cls := .type "tuple_iterator", data := .fields #[.ref l, .int 0 0] }).push
      { cls := .type "enumerate", data := .fields #[.none, .bool false, .ref s.heap.objs.size, rawInt 0, .none, .none] }) (s.heap.objs.size + 1) s.heap.objs.size 0 .none := by
    have := Heap.get?_push_size (s.heap.push { cls := .type "tuple_iterator", data := .fields #[.ref l, .int 0 0] })
      (o := { cls := .type "enumerate", data := .fields #[.none, .bool false, .ref s.heap.objs.size, rawInt 0, .none, .none] }) rfl
    rw [hz] at this; exact this
  refine ⟨⟨_, he, rfl⟩, h _ he ⟨_, Heap.get?_push_of_some _ (Heap.get?_push_size _ rfl), rfl, rfl⟩ (by rw [Heap.size_push, hz]) fun b o x => Heap.get?_push_of_some _ (Heap.get?_push_of_some _ x)⟩
end
end PySem
namespace G6
open PySem PySem.Spec PyProof.Rows L2
/-- the tuple at a, its items in new pairs with their places -/
def IteT (K : PySem.W.Frag) (a : Addr) : It :=
  ⟨fun i H => ∃ xs x, SqT K H a xs ∧ xs[i]? = some x, fun i H v H' => ∃ T x, v = .ref T ∧ H T = none ∧ H' = upd H T (.tup [.int (i : Nat), x]) ∧ ∀ xs, SqT K H a xs → xs[i]? = some x, fun i H => ∃ xs, SqT K H a xs ∧ xs.length ≤ i⟩
theorem turn_enumT {P : Program} {w : World} {K : PySem.W.Frag} {elts : List Expr} {kk : Nat} {tpos : PySem.Pos} (a e it : Addr) (hai : a ≠ it) :
    Turn P w K (.Tuple elts kk tpos) (IteT K a) [e, it] e (fun i h => (∃ old, IsEnum h e it ((i : Nat) : Int) old) ∧ h.IsTupleIter it a i ∧ e ≠ it) where
  mem := by simp
  obj := fun i h st b hb => by
    obtain ⟨⟨old, he⟩, ⟨o, ho, hc, hd⟩, _⟩ := st
    have e' : b = e ∨ b = it := by simpa using hb
    rcases e' with z | z
    · rw [z]; exact ⟨_, he, fun v q => nomatch q⟩
    · rw [z]; exact ⟨o, ho, fun v q => by rw [hd] at q; cases q⟩
  keep := fun i h h' st k => let ⟨⟨old, he⟩, hi, hne⟩ := st; ⟨⟨old, k e (by simp) _ he⟩, hi.at fun o q => k it (by simp) o q, hne⟩
  item := by
    intro X hP hw hK hc i pins s σ H E I hf st hg
    subst hP hw hK
    obtain ⟨⟨old, he⟩, hit, hne⟩ := st
    obtain ⟨xs, x, hq, hx⟩ := hg
    obtain ⟨its, rv, p, hz⟩ := I.tuple hq
    obtain ⟨u, hu, ru⟩ := rv.get hx
    have hel : e < s.heap.objs.size := Heap.lt_size he
    have hil : it < s.heap.objs.size := by obtain ⟨_, q, _⟩ := hit; exact Heap.lt_size q
    have hi : i < its.toArray.size := by
      have := (List.getElem?_eq_some_iff.mp hu).1
      simpa using this
    have hae : e ∉ [it, a] := fun z => by
      simp only [List.mem_cons, List.not_mem_nil, or_false] at z
      rcases z with z | z
      · exact hne z
      · obtain ⟨o, ho, hc', _⟩ := p
        rw [z] at he
        have he2 : s.heap.get? a = _ := he
        rw [ho] at he2
        rw [Option.some.inj he2] at hc'
        injection hc' with hc'
        exact absurd hc' (by decide)
    refine wpAny_pyNext_enum_itemD (i := i) (Draws.tuple (A := X.A.in1) (show X.A.in1.handled = none from I.ok.hd hc) it a hai its.toArray) he ⟨hit, p⟩ hi hne hae fun x' h' tk hx' ho hst hT hsz hk => ?_
    have ex : x' = u := by
      have z : its.toArray[i]? = some x' := hx'
      rw [List.getElem?_toArray] at z
      rw [hu] at z
      exact (Option.some.inj z).symm
    subst ex
    refine ⟨_, rfl, wpAny_letOwnedTupleGo_enum (s := { s with heap := h', toks := tk + 1 }) ho fun h'' he' sb => ?_⟩
    have hT2 : h''.get? s.heap.objs.size = some { cls := .type "tuple", data := .seq #[.int i tk, x'] } := (sb.2 _ (Nat.ne_of_gt hel)).trans hT
    have new : ObjOk X.prog X.w (upd H s.heap.objs.size (.tup [.int (i : Nat), x])) h'' s.heap.objs.size (.tup [.int (i : Nat), x]) :=
      ⟨by show 2 ≤ sizeLine; decide, [.int i tk, x'], .cons ⟨_, rfl⟩ (.cons ru .nil), ⟨_, hT2, rfl, _, rfl⟩⟩
    have I1 : Inv X pins σ (upd H s.heap.objs.size (.tup [.int (i : Nat), x])) { s with heap := h'', toks := tk + 1 } :=
      I.turnedNew (ch := [e, it]) (fun b ob hb q => (sb.2 b (fun z => hb (by simp [z]))).trans (hk b ob (fun z => hb (by simp [z])) (fun z => hb (by simp [z])) q)) hf (Nat.le_refl _) new
    refine ⟨.ref s.heap.objs.size, _, I1, rfl, ⟨_, x, rfl, I.hok.fresh (Nat.le_refl _), rfl, fun ys hy => by rw [I.tuple_inj hy hq]; exact hx⟩, ⟨⟨x', ?_⟩, hst.1.at fun o q => (sb.2 it (Ne.symm hne)).trans q, hne⟩, fun b hb => ?_⟩
    · have e1 : ((i + 1 : Nat) : Int) = (i : Int) + 1 := by omega
      rw [e1]; exact he'
    · have hb' : b < s.heap.objs.size := by
        have e' : b = e ∨ b = it := by simpa using hb
        rcases e' with z | z
        · rw [z]; exact hel
        · rw [z]; exact hil
      rw [upd_ne (Nat.ne_of_lt hb')]
      exact (hf b hb).1
  done := by
    intro X hP hw hK hc i pins s σ H E I hf st hg
    subst hP hw hK
    obtain ⟨⟨old, he⟩, hit, hne⟩ := st
    obtain ⟨xs, hq, hx⟩ := hg
    obtain ⟨its, rv, p, hz⟩ := I.tuple hq
    obtain ⟨f0, f1, f2, f3, f4, f5⟩ := hf it (by simp)
    have hl : xs.length = its.length := rv.length
    obtain ⟨o, ho, hc2, n, hd⟩ := p
    have hT : s.TypeIs (.ref e) "enumerate" := ⟨_, he, rfl⟩
    unfold pyNext
    refine wpAny_bind (wpAny_attempt (wpAny_callSpecial?_slot (name := Str.ofString "__next__") hT PySem.F.slot_enumerate_next
      (PySem.wpAny_call_entry PySem.F.slot_enumerate_next hT PySem.F.entry_enumerate_next ?_ (PySem.F.args_enumerate_next_1 _))))
    show wpAny _ _ (field (.ref e) 2 >>= _) _ _ _
    refine wpAny_bind (wpAny_field he rfl (x := .ref it) rfl ?_)
    refine wpAny_bind (wpAny_nextOf_tuple_end (items := its.toArray) (show X.A.in1.handled = none from I.ok.hd hc) hit ⟨o, ho, hc2, n, hd⟩ (by simp; omega) fun h' x he' hx' => ?_)
    obtain ⟨o2, ho2, hc3⟩ := hx'
    refine wpAny_bind (wpAny_isInstance (T := "StopIteration") (b := true) ⟨o2, ho2, hc3⟩ isSubtype_stop ?_)
    exact wpAny_pure ⟨rfl, I.turned (t' := s.toks) (fun b o hb q => he' b o hb q) f0 f1 f3 f4 f5⟩
  self := fun A i s Q E st h => let ⟨⟨_, he⟩, _⟩ := st; wpAny_pyIter_enum he h
def iEnumT (K : PySem.W.Frag) (ta : TA) : TI := fun σ H R => ta σ H fun vs H1 => ∃ a xs, vs = [.ref a] ∧ SqT K H1 a xs ∧ R (IteT K a) H1
theorem pi_enumT {X : Cx} {e : Expr} {ta : TA} {p pos tpos : PySem.Pos} {elts : List Expr} {kk : Nat} (hg : Gl X "enumerate") (hm : X.mg "enumerate" = none) (ha : PA X [e] ta) (hs : starEach [e] X.env = [(false, eval e X.env)] := by rfl) :
    PI X (.Tuple elts kk tpos) (.Call (.Name "enumerate" p) [e] [] pos) (iEnumT X.K ta) := by
  refine ⟨fun pins s σ H R I h => ?_⟩
  refine PyProof.Rows.Call_ (ld_blt I hg hm PyProof.Rows.boot_enumerate (PyProof.Rows.callWith_type1 (thn (ha.run pos pins s σ H _ I h) fun us s1 ⟨vs, H1, I1, r1, q1⟩ => ?_) hs rfl))
  obtain ⟨a, xs, ex, hq, q⟩ := q1
  subst ex
  cases r1 with
  | cons r rr =>
    cases rr
    cases r
    obtain ⟨its, rv, p', hz⟩ := I1.tuple hq
    have hal : a < s1.heap.objs.size := by
      obtain ⟨o, ho, _⟩ := p'
      exact Heap.lt_size ho
    refine call_enumT (items := its.toArray) p' fun h' he hit hsz hk => wpAny_pyIter_enum he ?_
    have I2 : Inv X pins σ H1 { s1 with heap := h' } := I1.kept (t' := s1.toks) hk
    refine ⟨s1.heap.objs.size + 1, [s1.heap.objs.size + 1, s1.heap.objs.size], _, _, H1, rfl, I2, turn_enumT a (s1.heap.objs.size + 1) s1.heap.objs.size (Nat.ne_of_lt hal), ⟨⟨.none, he⟩, hit, Nat.succ_ne_self _⟩, fun b hb => ?_, q⟩
    have e' : b = s1.heap.objs.size + 1 ∨ b = s1.heap.objs.size := by simpa using hb
    have hle : s1.heap.objs.size ≤ b := by
      rcases e' with z | z
      · rw [z]; exact Nat.le_add_right _ _
      · rw [z]; exact Nat.le_refl _
    exact I1.fpOk hle (I1.hok.fresh hle)
theorem walk_enumT {K : PySem.W.Frag} {a : Addr} {xs : List V} : Walk (IteT K a) xs.length (fun H => SqT K H a xs) (YPair (fun i => some (.int (i : Nat))) (fun i => xs[i]?)) := by
  refine ⟨fun i _ hi q => ⟨xs, xs[i], q, by simp [hi]⟩, fun _ q => ⟨xs, q, Nat.le_refl _⟩, fun i H v H' _ q y => ?_⟩
  obtain ⟨T, x, h1, h2, h3, h4⟩ := y
  exact ⟨T, .int (i : Nat), x, h1, h2, h3, rfl, h4 xs q⟩
end G6

set_option autoImplicit false
set_option Elab.async false
set_option linter.all false
set_option maxRecDepth 100000
set_option maxHeartbeats 4000000
/-! folded. -/
namespace G6
open PySem PySem.Spec PyProof.Rows L2 NdefX LamX
theorem goodL_erase {n : Nat} {b : Pl} (g : GoodL n b) (i : Nat) : GoodL n (b.eraseIdx i) := (goodL_iff _ _).mpr fun q hq => (goodL_iff _ _).mp g q ((List.eraseIdx_sublist b i).subset hq)
theorem ndL_sub {a b : Pl} (h : a.Sublist b) : ndL a ≤ ndL b := by
  induction h with
  | slnil => exact Nat.le_refl _
  | cons x _ ih => obtain ⟨c, p⟩ := x; rw [ndL_cons]; omega
  | cons_cons x _ ih => obtain ⟨c, p⟩ := x; rw [ndL_cons, ndL_cons]; omega
theorem szL_sub {a b : Pl} (h : a.Sublist b) : szL a ≤ szL b := by
  induction h with
  | slnil => exact Nat.le_refl _
  | cons x _ ih => obtain ⟨c, p⟩ := x; rw [szL_cons]; exact Nat.le_trans ih (Nat.le_add_left _ _)
  | cons_cons x _ ih => obtain ⟨c, p⟩ := x; rw [szL_cons, szL_cons]; omega
theorem FitL.sub {n : Nat} {a b : Pl} (f : FitL n b) (h : a.Sublist b) : FitL n a :=
  ⟨(goodL_iff _ _).mpr fun q hq => (goodL_iff _ _).mp f.good q (h.subset hq), Nat.le_trans (ndL_sub h) f.nd, Nat.lt_of_le_of_lt (szL_sub h) f.sz⟩
theorem dpL_sub {a b : Pl} (h : a.Sublist b) : dpL a ≤ dpL b := dpL_le.mpr fun q hq => dp_mem (h.subset hq)
theorem FitL.rz {n : Nat} {b : Pl} (f : FitL n b) (c : Nat) : FitL (n + 1) (rzL c b) := ⟨goodL_rz f.good, by rw [(ndL_rz b c).1]; exact f.nd, by rw [szL_rz]; exact f.sz⟩
section
variable {K : PySem.W.Frag} {T : List NdefX.NTab} {H : Hp} {Q : VK}
theorem slA_any {a : Addr} {xs : List V} {lo hi : Option Int} (hS : SqT K H a xs) (h : ∀ (p : Addr) (H' : Hp), Gr T none H H' → SqT K H' p (cutV xs lo hi) → Q (.ref p) H') : rSlA K (.ref a) lo hi H Q := by
  refine ⟨a, xs, rfl, hS, fun hw => ?_, fun _ p np => h p _ (gr_new np) (SqT.of upd_same)⟩
  refine h a H (Gr.refl H) ?_
  have e : cutV xs lo hi = xs := by
    unfold cutV
    rw [hw.1, hw.2]
    simp
  rw [e]
  exact hS
theorem cut_take (xs : List V) (i : Nat) (h : i ≤ xs.length) : cutV xs none (some (i : Int)) = xs.take i := by
  unfold cutV
  rw [HT.sIx_none, HT.sIx_nat, Nat.min_eq_left h]
  simp
theorem cut_drop (xs : List V) (i : Nat) (h : i ≤ xs.length) : cutV xs (some (i : Int)) none = xs.drop i := by
  unfold cutV
  rw [HT.sIx_none, HT.sIx_nat, Nat.min_eq_left h]
  exact List.take_of_length_le (by rw [List.length_drop]; exact Nat.le_refl _)
theorem catA_any {a b : Addr} {xs ys : List V} (hx : SqT K H a xs) (hy : SqT K H b ys) (hz : xs.length + ys.length ≤ sizeLine) (h : ∀ (p : Addr) (H' : Hp), Gr T none H H' → SqT K H' p (xs ++ ys) → Q (.ref p) H') : rCatA K (.ref a) (.ref b) H Q := by
  refine ⟨a, b, xs, ys, rfl, rfl, hx, hy, hz, fun e => ?_, fun _ e => ?_, fun _ _ p np => h p _ (gr_new np) (SqT.of upd_same)⟩
  · subst e
    exact h b H (Gr.refl H) hy
  · subst e
    refine h a H (Gr.refl H) ?_
    rw [List.append_nil]
    exact hx
end
section
variable {P : Program} {w : World} {K : PySem.W.Frag} {mg : Str → Option Value} {base : Heap} {T' : List (Addr × Str)}
def spFolded (T' : List (Addr × Str)) (K : PySem.W.Frag) (D : Nat) : Sp := fun vs H Q _ => ∃ (d : List Nat) (v : V) (B : Pl) (n : Nat), vs = [.str (S d), v] ∧ okLab d ∧ PlanV K H v B ∧ FitL n B ∧ dpL B < D ∧ TabsN (nT T') H ∧ ∀ (u : V) (H' : Hp), Gr (nT T') none H H' → ItemV K H' u (folded d B) → Q u H'
theorem scFolded : FnScope ["door", "body", "at", "many", "part", "rest"] ["door", "body"] (C8.fnScope sFolded) := C8.fnScope_by (by decide +kernel)
theorem ok_folded (Df : DefN K mg "folded" sFolded ["door", "body"]) (X : Txt mg) {D : Nat} (hD : D ≤ 20) (cR : C8.Cal P w K mg base (D + 3) "raised" (spRaised T' K D) []) : C8.Cal P w K mg base (D + 4) "folded" (spFolded T' K D) [] := by
  refine mkCal Df scFolded (fun vs H Q E h => ?_) (fun f cdv A outer s H vs Q E hr h => ?_)
  · obtain ⟨d, v, B, n, rfl, _⟩ := h; rfl
  obtain ⟨d, v, B, n, rfl, hld, hv, hg, hd, hT, q⟩ := h
  obtain ⟨a, xs, rfl, hS, hI⟩ := hv.inv
  refine ⟨_, pss_cons (ps_for PassesOwn.never rfl (pi_enumT (by rfl) X.enumerate (pa_cons (pv 1) pa_nil))
      (pg_tup rfl (pgs_cons (pg_name (i := 2) scFolded.nd rfl (Or.inl rfl)) (pgs_cons (pg_tup rfl (pgs_cons (pg_name (i := 3) scFolded.nd rfl (Or.inl rfl)) (pgs_cons (pg_name (i := 4) scFolded.nd rfl (Or.inl rfl)) pgs_nil))) pgs_nil)))
      (pss_one (ps_if (PW.pt (pw_and (pt_cmpR op_eq (pe_ix ix_tup (pv 4) pe_int (fun _ _ => rfl)) pe_str (nomark _)) (pw_and1 (pt_cmpR op_eq (pe_ix ix_tup (pv 4) pe_int (fun _ _ => rfl)) (pv 0) (nomark _)))))
        (pss_cons (ps_set (i := 5) scFolded.nd rfl (.inl rfl) (pe_op op_catA (pe_slice sl_tupA (pv 1) po_none (po_some (pv 2))) (pe_slice sl_tupA (pv 1) (po_some (pe_op op_add (pv 2) pe_int)) po_none)))
          (pss_one (ps_if (pt_cmpR (op_eqD hr.units) (pe_ix ix_tup (pv 4) pe_int (fun _ _ => rfl)) (C8.pe_c cR hr (Nat.le_refl _) (by rfl) (pa_cons (pv 5) (pa_cons pe_int (pa_cons pe_int pa_nil)))) (nomark _))
            (pss_one (ps_ret (pe_tup (pa_cons (pe_op op_add (pv 3) pe_int) (pa_cons (pe_tup (pa_cons pe_str (pa_cons (pv 0) (pa_cons (pv 5) pa_nil)))) pa_nil)))))
            pss_nil)))
        pss_nil)))
    (pss_one (ps_ret (pe_tup (pa_cons pe_int (pa_cons (pe_tup (pa_cons pe_str (pa_cons (pv 0) (pa_cons (pv 1) pa_nil)))) pa_nil))))), ?_⟩
  have hxl : xs.length = B.length := hI.len
  refine ⟨.ref a, rfl, a, xs, rfl, hS, for_it walk_enumT (fun i σ H3 => ∃ y2 y3 y4 y5, σ = [some (.str (S d)), some (.ref a), y2, y3, y4, y5] ∧ Gr (nT T') none H H3 ∧ ∀ j, j < i → hit d B j = false)
    ⟨none, none, none, none, rfl, Gr.refl H, fun j h => absurd h (Nat.not_lt_zero _)⟩ (fun i σ H3 _ ⟨_, _, _, _, _, g, _⟩ => g.sqt0 hS) (fun i x σ H3 H4 hi hP hY => ?_) (fun σ H3 hP => ?_)⟩
  · obtain ⟨y2, y3, y4, y5, rfl, g, hno⟩ := hP
    obtain ⟨tp, x1, x2, rfl, ntp, rfl, e1, hx⟩ := hY
    cases e1
    have hib : i < B.length := by omega
    obtain ⟨x', hx', ht⟩ := hI.get (List.getElem?_eq_getElem hib)
    rw [show xs[i]? = some x2 from hx] at hx'
    cases hx'
    have hmem := List.getElem_mem hib
    have hfp := hg.mem hmem
    have hgetB : B[i]? = some B[i] := List.getElem?_eq_getElem hib
    generalize hq0 : B[i] = q0 at ht hfp hgetB
    obtain ⟨c0, p⟩ := q0
    obtain ⟨ia, u, rfl, hS2, hu⟩ := ht.inv
    have g4 : Gr (nT T') none H (upd H3 tp (.tup [.int (i : Nat), .ref ia])) := g.trans (gr_new ntp)
    generalize hH4 : upd H3 tp (.tup [.int (i : Nat), .ref ia]) = H4 at g4
    have htp : SqT K H4 tp [.int (i : Nat), .ref ia] := by rw [← hH4]; exact SqT.of upd_same
    have hu4 : PartV K H4 u p := g4.tp hu
    obtain ⟨pa, pxs, l, rfl, hpS, hw, hl, hlab, hlen⟩ := part_at hu4
    refine ⟨tp, _, rfl, htp, rfl, _, _, rfl, _, _, rfl, ⟨ia, _, rfl, g4.sqt0 hS2, rfl, _, _, rfl, _, _, rfl, rfl, rfl, ?_⟩⟩
    by_cases hbx : ∃ d' bb, p = .box true d' bb
    · obtain ⟨d', bb, rfl⟩ := hbx
      obtain ⟨pa', pu, ep, hpS', hpb⟩ := hu4.box_inv
      cases ep
      refine rd_ixEq (i := 4) (k := 0) rfl hpS' rfl true (by decide) (iteT (rd_ix (i := 4) (k := 1) rfl hpS' rfl ⟨.str (S d), rfl, rfl, decide (d' = d), ?_, ?_⟩))
      · rw [← S_eq]
        exact congrArg V.bl (decide_eq_decide.mpr ⟨fun z => V.str.inj z, fun z => by rw [z]⟩)
      by_cases hdd : d' = d
      · subst hdd
        rw [decide_eq_true rfl]
        have hil : i + 1 ≤ xs.length := by omega
        refine iteT ⟨.ref a, rfl, .int (i : Nat), rfl, (i : Int), rfl, slA_any (T := nT T') (g4.sqt0 hS) fun s1 H5 g5 hs1 => ⟨.ref a, rfl, .int (i : Nat), rfl, (i : Int), 1, rfl, rfl, (i : Int) + 1, rfl, ?_⟩⟩
        dsimp only [tNoPart]
        refine slA_any (T := nT T') ((g4.trans g5).sqt0 hS) fun s2 H6 g6 hs2 => ?_
        have ez : (i : Int) + 1 = ((i + 1 : Nat) : Int) := by push_cast; rfl
        rw [ez, cut_drop xs (i + 1) hil] at hs2
        rw [cut_take xs i (by omega)] at hs1
        have hlen4 := hg.len
        refine catA_any (T := nT T') (g6.sqt0 hs1) hs2 (by rw [List.length_take, List.length_drop]; show _ ≤ 2 ^ 24; omega) fun rr H7 g7 hrr => ?_
        have g74 := (g5.trans g6).trans g7
        have g70 := g4.trans g74
        have hrest : PlanV K H7 (.ref rr) (B.eraseIdx i) := by
          refine PlanV.mk hrr ?_
          rw [List.eraseIdx_eq_take_drop_succ]
          unfold ItemsV
          rw [List.map_append, List.map_take, List.map_drop]
          have z := g70.tpAll hI
          exact TpAll.append (z.take i) (z.drop (i + 1))
        have fr := hg.sub (List.eraseIdx_sublist B i)
        have hdr := dpL_sub (List.eraseIdx_sublist B i)
        have fb := hfp.body.2
        have hbbd : dpL bb ≤ 20 := by
          have z := dp_mem hmem
          rw [hq0] at z
          have z : dp (.box true d' bb) ≤ dpL B := z
          rw [dp_box] at z
          omega
        refine rd_ix (i := 4) (k := 2) rfl (g74.sqt0 hpS') rfl ⟨.ref rr, rfl, .ref rr, B.eraseIdx i, n, rfl, hrest, fr, by omega, g70.tabs hT, fun r H8 g8 hr8 => ?_⟩
        have g80 := g70.trans g8
        have eqv := plan_eqv bb (rzL 1 (B.eraseIdx i))
        refine ⟨planD bb, planD (rzL 1 (B.eraseIdx i)), ((g74.trans g8).tp hpb).dp, hr8.dp, plan_shaped fb.good hbbd, plan_shaped (fr.rz 1).good (by rw [(ndL_rz _ 1).2]; omega), decide (bb = rzL 1 (B.eraseIdx i)), congrArg V.bl eqv, ?_⟩
        by_cases hb : bb = rzL 1 (B.eraseIdx i)
        · rw [decide_eq_true hb]
          have hh : hit d' B i = true := hit_iff.mpr ⟨c0, by rw [hgetB, hb]⟩
          have ef := folded_hit hg.good.pos hh hgetB
          refine iteT ⟨.int (c0 : Int), rfl, (c0 : Int), 1, rfl, rfl, .str (S d'), rfl, .ref rr, rfl, by show 3 ≤ sizeLine; decide, fun t1 n1 => ⟨by show 2 ≤ sizeLine; decide, fun t2 n2 => ?_⟩⟩
          have gx := gr_new (T := nT T') (t := none) n1 (o := .tup [.str "wait", .str (S d'), .ref rr])
          have gy := gr_new (T := nT T') (t := none) n2 (o := .tup [.int ((c0 : Int) + 1), .ref t1])
          refine q _ _ ((g80.trans gx).trans gy) ?_
          rw [ef]
          have z2 : (((c0 + 1 : Nat)) : Int) = (c0 : Int) + 1 := by push_cast; rfl
          exact ItemV.mk (c := c0 + 1) (by rw [z2]; exact SqT.of upd_same) (gy.tp (PartV.box_mk (w := true) (SqT.of upd_same) (gx.tp (g8.tp hrest))))
        · rw [decide_eq_false hb]
          refine iteF ⟨_, _, _, _, rfl, g80, fun j hj => ?_⟩
          rcases Nat.lt_succ_iff_lt_or_eq.mp hj with z | z
          · exact hno j z
          · subst z
            cases hh : hit d' B j with
            | false => rfl
            | true =>
              obtain ⟨k, e⟩ := hit_iff.mp hh
              rw [hgetB] at e
              cases e
              exact absurd rfl hb
      · rw [decide_eq_false hdd]
        refine iteF ?_
        refine ⟨_, _, _, _, rfl, g4, fun j hj => ?_⟩
        rcases Nat.lt_succ_iff_lt_or_eq.mp hj with z | z
        · exact hno j z
        · subst z
          cases hh : hit d B j with
          | false => rfl
          | true =>
            obtain ⟨k, e⟩ := hit_iff.mp hh
            rw [hgetB] at e
            cases e
            exact absurd rfl hdd
    · have w1 : decide (wordS p = "wait") = false := by
        cases p with
        | name x => exact decide_eq_false (by show ("name" : Str) ≠ "wait"; decide)
        | got x => exact decide_eq_false (by show ("got" : Str) ≠ "wait"; decide)
        | box w d b =>
          cases w
          · exact decide_eq_false (by show kindS false ≠ "wait"; decide)
          · exact absurd ⟨d, b, rfl⟩ hbx
      refine rd_ixEq (i := 4) (k := 0) rfl hpS hw false w1 (iteF (iteF ?_))
      refine ⟨_, _, _, _, rfl, g4, fun j hj => ?_⟩
      rcases Nat.lt_succ_iff_lt_or_eq.mp hj with z | z
      · exact hno j z
      · subst z
        cases hh : hit d B j with
        | false => rfl
        | true =>
          obtain ⟨k, e⟩ := hit_iff.mp hh
          rw [hgetB] at e
          cases e
          exact absurd ⟨_, _, rfl⟩ hbx
  · obtain ⟨y2, y3, y4, y5, rfl, g, hno⟩ := hP
    have ef : folded d B = (1, .box true d B) := folded_miss fun i hi => hno i (by omega)
    refine ⟨.str (S d), rfl, .ref a, rfl, by show 3 ≤ sizeLine; decide, fun t1 n1 => ⟨by show 2 ≤ sizeLine; decide, fun t2 n2 => ?_⟩⟩
    have gx := gr_new (T := nT T') (t := none) n1 (o := .tup [.str "wait", .str (S d), .ref a])
    have gy := gr_new (T := nT T') (t := none) n2 (o := .tup [.int 1, .ref t1])
    refine q _ _ ((g.trans gx).trans gy) ?_
    rw [ef]
    exact ItemV.mk (c := 1) (SqT.of upd_same) (gy.tp (PartV.box_mk (w := true) (SqT.of upd_same) (gx.tp (g.tp hv))))
end
end G6

set_option autoImplicit false
set_option Elab.async false
set_option linter.all false
set_option maxRecDepth 100000
set_option maxHeartbeats 4000000
/-! plain_of. -/
namespace G6
open PySem PySem.Spec PyProof.Rows L2 NdefX LamX
theorem FitP.mp {n : Nat} {p : Pt} (f : FitP n p) : FitP n (mp p).2 := by
  have h1 := sz_mp p n f.good
  have h2 : 1 ≤ (G6.mp p).1 := by
    rcases Nat.eq_zero_or_pos (G6.mp p).1 with z | z
    · rw [z, Nat.zero_mul] at h1
      have := sz_pos p
      omega
    · exact z
  have h3 : G6.sz (G6.mp p).2 ≤ G6.sz p := by rw [← h1]; exact Nat.le_mul_of_pos_left _ h2
  exact ⟨good_mp p n f.good, Nat.le_trans (nd_mp p n f.good).1 f.nd, Nat.lt_of_le_of_lt h3 f.sz⟩
section
variable {P : Program} {w : World} {K : PySem.W.Frag} {mg : Str → Option Value} {base : Heap} {T' : List (Addr × Str)}
def spPlain (T' : List (Addr × Str)) (K : PySem.W.Frag) (D : Nat) : Sp := fun vs H Q _ => ∃ (v : V) (b : Pl) (n : Nat), vs = [v] ∧ PlanV K H v b ∧ FitL n b ∧ dpL b < D ∧ TabsN (nT T') H ∧ ∀ (u : V) (H' : Hp), Gr (nT T') none H H' → PlanV K H' u (plainOf b) → Q u H'
theorem scPlainOf : FnScope ["plan", "items", "count", "part", "many", "prime"] ["plan"] (C8.fnScope sPlainOf) := C8.fnScope_by (by decide +kernel)
theorem ok_plain1 (Df : DefN K mg "plain_of" sPlainOf ["plan"]) (X : Txt mg) {D : Nat} (hD : D ≤ 20) (cF : C8.Cal P w K mg base (D + 4) "folded" (spFolded T' K D) []) (cS : C8.Cal P w K mg base (2 * D + 8) "sorted_items" (spItems T' K D) [])
    (cP : C8.Cal P w K mg base (2 * D + 8) "plain_of" (spPlain T' K D) []) : C8.Cal P w K mg base (2 * D + 9) "plain_of" (spPlain T' K (D + 1)) [] := by
  refine mkCal Df scPlainOf (fun vs H Q E h => ?_) (fun f cdv A outer s H vs Q E hr h => ?_)
  · obtain ⟨v, b, n, rfl, _⟩ := h; rfl
  obtain ⟨v, b, n, rfl, hv, hg, hd, hT, q⟩ := h
  obtain ⟨a, xs, rfl, hS, hI⟩ := hv.inv
  refine ⟨_, pss_cons (ps_set (i := 1) scPlainOf.nd rfl (.inl rfl) (pe_lst pa_nil))
    (pss_cons (ps_for PassesOwn.never rfl (pi_tup (pv 0)) (pg_tup rfl (pgs_cons (pg_name (i := 2) scPlainOf.nd rfl (Or.inl rfl)) (pgs_cons (pg_name (i := 3) scPlainOf.nd rfl (Or.inl rfl)) pgs_nil)))
      (pss_one (ps_if (pt_cmpR op_eq (pe_ix ix_tup (pv 3) pe_int (fun _ _ => rfl)) pe_str (nomark _))
        (pss_one (ps_expr (pe_bm PySem.F.plainAttrs_list PySem.F.slot_list_append PySem.F.type_list_append mt_append (pv 1) (pa_cons (pe_tup (pa_cons (pv 2) (pa_cons (pe_tup (pa_cons pe_str (pa_cons (pe_ix ix_tup (pv 3) pe_int (fun _ _ => rfl)) (pa_cons
          (C8.pe_c cP hr (Nat.le_refl _) (by rfl) (pa_cons (pe_ix ix_tup (pv 3) pe_int (fun _ _ => rfl)) pa_nil)) pa_nil)))) pa_nil))) pa_nil))))
        (pss_one (ps_if (pt_cmpR op_eq (pe_ix ix_tup (pv 3) pe_int (fun _ _ => rfl)) pe_str (nomark _))
          (pss_cons (ps_asg (C8.pe_c cF hr (by omega) (by rfl) (pa_cons (pe_ix ix_tup (pv 3) pe_int (fun _ _ => rfl)) (pa_cons (C8.pe_c cP hr (Nat.le_refl _) (by rfl) (pa_cons (pe_ix ix_tup (pv 3) pe_int (fun _ _ => rfl)) pa_nil)) pa_nil)))
              (pg_tup rfl (pgs_cons (pg_name (i := 4) scPlainOf.nd rfl (Or.inl rfl)) (pgs_cons (pg_name (i := 5) scPlainOf.nd rfl (Or.inl rfl)) pgs_nil))))
            (pss_one (ps_expr (pe_bm PySem.F.plainAttrs_list PySem.F.slot_list_append PySem.F.type_list_append mt_append (pv 1) (pa_cons (pe_tup (pa_cons (pe_op op_mul (pv 2) (pv 4)) (pa_cons (pv 5) pa_nil))) pa_nil)))))
          (pss_one (ps_expr (pe_bm PySem.F.plainAttrs_list PySem.F.slot_list_append PySem.F.type_list_append mt_append (pv 1) (pa_cons (pe_tup (pa_cons (pv 2) (pa_cons (pv 3) pa_nil))) pa_nil)))))))))
    (pss_one (ps_ret (C8.pe_c cS hr (Nat.le_refl _) (by rfl) (pa_cons (pv 1) pa_nil))))), ?_⟩
  have hxl : xs.length = b.length := hI.len
  refine ⟨Nat.zero_le _, fun Da nDa => ⟨.ref a, rfl, a, rfl, ⟨xs, (gr_new (T := nT T') (t := none) nDa).sqt0 hS⟩, for_it walk_tup (fun i σ H3 => ∃ y1 y2 y3 y4 zs, σ = [some (.ref a), some (.ref Da), y1, y2, y3, y4] ∧ Gr (nT T') none H H3 ∧ H3 Da = some (.lst zs) ∧ ItemsV K H3 zs ((b.take i).map fun q => (q.1 * (mp q.2).1, (mp q.2).2)))
    ⟨none, none, none, none, [], rfl, gr_new nDa, upd_same, .nil⟩ (fun i σ H3 _ ⟨_, _, _, _, _, _, g, _⟩ => g.sqt0 hS) (fun i x σ H3 H4 hi hP hY => ?_) (fun σ H3 hP => ?_)⟩⟩
  · obtain ⟨y1, y2, y3, y4, zs, rfl, g, eD, hz⟩ := hP
    obtain ⟨rfl, hx⟩ := hY
    have hib : i < b.length := by omega
    obtain ⟨x', hx', ht⟩ := hI.get (List.getElem?_eq_getElem hib)
    rw [hx] at hx'
    cases hx'
    have hmem := List.getElem_mem hib
    have hfp := hg.mem hmem
    have hdm := dp_mem hmem
    have hcnt := hg.cnt hmem
    rw [take_snoc _ (List.getElem?_eq_getElem hib)]
    have hsz : zs.length < sizeLine := by
      have h1 := hz.len
      rw [List.length_map, List.length_take] at h1
      have := hg.len
      show _ < 2 ^ 24
      omega
    generalize b[i] = q0 at ht hfp hdm hcnt ⊢
    obtain ⟨c0, p⟩ := q0
    obtain ⟨ia, u, rfl, hS2, hu⟩ := ht.inv
    have hu' : PartV K H4 u p := g.tp hu
    refine ⟨ia, _, rfl, g.sqt0 hS2, rfl, _, _, rfl, _, _, rfl, rfl, ?_⟩
    by_cases hbx : ∃ wt d bb, p = .box wt d bb
    · obtain ⟨wt, d, bb, rfl⟩ := hbx
      obtain ⟨pa, pu, rfl, hpS, hpb⟩ := hu'.box_inv
      obtain ⟨hlab, hbb⟩ := hfp.body
      rw [dp_box] at hdm
      cases wt with
      | false =>
        refine rd_ixEq (i := 3) (k := 0) rfl hpS rfl true (by decide) (iteT ⟨.ref Da, rfl, .inl ⟨rfl, zs, SqL.of eD⟩, .int (c0 : Int), rfl, rd_ix (i := 3) (k := 1) rfl hpS rfl (rd_ix (i := 3) (k := 2) rfl hpS rfl ⟨pu, bb, n, rfl, hpb, hbb, by omega, g.tabs hT, fun r H5 g5 hr5 => ?_⟩)⟩)
        refine ⟨by show 3 ≤ sizeLine; decide, fun t1 n1 => ⟨by show 2 ≤ sizeLine; decide, fun t2 n2 => ?_⟩⟩
        have gx := gr_new (T := nT T') (t := none) n1 (o := .tup [.str "letter", .str (S d), r])
        have gy := gr_new (T := nT T') (t := none) n2 (o := .tup [.int (c0 : Int), .ref t1])
        obtain ⟨e6, g7, z7⟩ := push_item nDa g eD hz ((g5.trans gx).trans gy) (ItemV.mk (c := c0) (SqT.of upd_same) (gy.tp (PartV.box_mk (w := false) (SqT.of upd_same) (gx.tp hr5))))
        exact ⟨Da, zs, _, rfl, rfl, e6, hsz, _, _, _, _, _, rfl, g7, upd_same, by rw [mp_letter, Nat.mul_one]; exact z7⟩
      | true =>
        refine rd_ixEq (i := 3) (k := 0) rfl hpS rfl false (by decide) (iteF ?_)
        have hpl : FitL (n + 1) bb := hbb
        refine rd_ixEq (i := 3) (k := 0) rfl hpS rfl true (by decide) (iteT (rd_ix (i := 3) (k := 1) rfl hpS rfl (rd_ix (i := 3) (k := 2) rfl hpS rfl ⟨pu, bb, n + 1, rfl, hpb, hpl, by omega, g.tabs hT, fun r H5 g5 hr5 => ?_⟩)))
        refine ⟨d, r, plainOf bb, n + 1, rfl, hlab, hr5, hpl.plain, by have := (ndL_plain hpl.good).2; omega, (g.trans g5).tabs hT, fun r2 H6 g6 hr6 => ?_⟩
        obtain ⟨fa, fu, rfl, hfS, hfu⟩ := hr6.inv
        refine ⟨fa, _, rfl, hfS, rfl, _, _, rfl, _, _, rfl, rfl, ?_⟩
        have eD6 := (g5.trans g6).lst eD
        refine ⟨.ref Da, rfl, .inl ⟨rfl, zs, SqL.of eD6⟩, .int (c0 : Int), rfl, .int ((folded d (plainOf bb)).1 : Int), rfl, (c0 : Int), ((folded d (plainOf bb)).1 : Int), rfl, rfl, .inl ⟨by omega, by have : c0 < 2 ^ 64 := hcnt; omega⟩, fu, rfl, by show 2 ≤ sizeLine; decide, fun t2 n2 => ?_⟩
        have gy := gr_new (T := nT T') (t := none) n2 (o := .tup [.int ((c0 : Int) * ((folded d (plainOf bb)).1 : Int)), fu])
        have z2 : ((c0 * (folded d (plainOf bb)).1 : Nat) : Int) = (c0 : Int) * ((folded d (plainOf bb)).1 : Int) := by push_cast; rfl
        obtain ⟨e6, g7, z7⟩ := push_item nDa g eD hz ((g5.trans g6).trans gy) (ItemV.mk (c := c0 * (folded d (plainOf bb)).1) (by rw [z2]; exact SqT.of upd_same) (gy.tp hfu))
        exact ⟨Da, zs, _, rfl, rfl, e6, hsz, _, _, _, _, _, rfl, g7, upd_same, by rw [mp_wait]; exact z7⟩
    · obtain ⟨pa, pxs, l, rfl, hpS, hw, _⟩ := part_at hu'
      have hnb : ∀ w d b, p ≠ .box w d b := fun w d b z => hbx ⟨w, d, b, z⟩
      have w1 : decide (wordS p = "letter") = false := by
        cases p with
        | name x => exact decide_eq_false (by show ("name" : Str) ≠ "letter"; decide)
        | got x => exact decide_eq_false (by show ("got" : Str) ≠ "letter"; decide)
        | box w d b => exact absurd rfl (hnb w d b)
      have w2 : decide (wordS p = "wait") = false := by
        cases p with
        | name x => exact decide_eq_false (by show ("name" : Str) ≠ "wait"; decide)
        | got x => exact decide_eq_false (by show ("got" : Str) ≠ "wait"; decide)
        | box w d b => exact absurd rfl (hnb w d b)
      have em : mp p = (1, p) := by
        cases p with
        | name x => exact mp_name x
        | got x => exact mp_got x
        | box w d b => exact absurd rfl (hnb w d b)
      refine rd_ixEq (i := 3) (k := 0) rfl hpS hw false w1 (iteF ?_)
      refine rd_ixEq (i := 3) (k := 0) rfl hpS hw false w2 (iteF ?_)
      refine ⟨.ref Da, rfl, .inl ⟨rfl, zs, SqL.of eD⟩, .int (c0 : Int), rfl, .ref pa, rfl, by show 2 ≤ sizeLine; decide, fun t2 n2 => ?_⟩
      have gy := gr_new (T := nT T') (t := none) n2 (o := .tup [.int (c0 : Int), .ref pa])
      obtain ⟨e6, g7, z7⟩ := push_item nDa g eD hz gy (ItemV.mk (c := c0) (SqT.of upd_same) (gy.tp hu'))
      exact ⟨Da, zs, _, rfl, rfl, e6, hsz, _, _, _, _, _, rfl, g7, upd_same, by rw [em, Nat.mul_one]; exact z7⟩
  · obtain ⟨y1, y2, y3, y4, zs, rfl, g, eD, hz⟩ := hP
    rw [List.take_of_length_le (by omega), ← preL_map] at hz
    refine ⟨.ref Da, rfl, Da, zs, preL b, n, rfl, SqL.of eD, hz, fun q0 hq0 => ?_, ?_, g.tabs hT, fun u H' g' hu => q u H' (g.trans g') hu⟩
    · rw [preL_map] at hq0
      obtain ⟨y, hy, rfl⟩ := List.mem_map.mp hq0
      have := dp_mem hy
      have h2 := (nd_mp y.2 n (hg.mem hy).good).2
      exact ⟨(hg.mem hy).mp, by show dp (mp y.2).2 ≤ D; omega⟩
    · rw [preL_map, List.length_map]
      exact hg.len
end
end G6

set_option autoImplicit false
set_option Elab.async false
set_option linter.all false
set_option maxRecDepth 100000
set_option maxHeartbeats 4000000
/-! bag, root_of, times, root, greatest_root. -/
namespace G6
open PySem PySem.Spec PyProof.Rows L2 NdefX LamX
section
variable {P : Program} {w : World} {K : PySem.W.Frag} {mg : Str → Option Value} {base : Heap} {T' : List (Addr × Str)}
def itemR (q : Nat × Pt) : PyData := .tuple [partD q.2, .int (q.1 : Int)]
def spBag (T : List NdefX.NTab) (K : PySem.W.Frag) : Sp := fun vs H Q _ => ∃ (l : Addr) (xs : List V) (b : Pl), vs = [.ref l] ∧ SqL K H l xs ∧ TpAll K H xs (b.map itemR) ∧ Pos b ∧ b.length ≤ 4000 ∧ ∀ (u : V) (H' : Hp), Gr T none H H' → PlanV K H' u b → Q u H'
theorem scBag : FnScope ["rows", "many", "part"] ["rows"] (C8.fnScope sBag) := C8.fnScope_by (by decide +kernel)
theorem gr_sql {T : List NdefX.NTab} {H H' : Hp} (g : Gr T none H H') {a : Addr} {xs : List V} (h : SqL K H a xs) : SqL K H' a xs := by
  rcases h with (h | ⟨o, h⟩) | h
  · exact .inl (.inl (g.keep _ _ h (fun z => nomatch z) fun _ z => by cases z))
  · exact .inl (.inr ⟨o, g.keep _ _ h (fun z => nomatch z) fun _ z => by cases z⟩)
  · exact .inr h
theorem ok_bag {T : List NdefX.NTab} (Df : DefN K mg "bag" sBag ["rows"]) (X : Txt mg) : C8.Cal P w K mg base 1 "bag" (spBag T K) [] := by
  refine mkCal Df scBag (fun vs H Q E h => ?_) (fun f cdv A outer s H vs Q E hr h => ?_)
  · obtain ⟨l, xs, b, rfl, _⟩ := h; rfl
  obtain ⟨l, xs, b, rfl, hS, hI, pb, hbl, q⟩ := h
  refine ⟨_, pss_one (ps_ret (pe_tupleOf (by rfl) X.tuple
      (pe_lc (own := [("many", 1), ("part", 2)]) (g := gTup K 2 (gCons (gName 2) (gCons (gName 1) gNil))) rfl scBag.nd (pi_list (pv 0)) (blkOk_by (N := ["rows", "many", "part"]) (sc := C8.fnScope sBag) (by decide +kernel))
        (fun _ _ _ _ _ => pg_tup rfl (pgs_cons (pg_name (i := 2) scBag.nd rfl (Or.inl rfl)) (pgs_cons (pg_name (i := 1) scBag.nd rfl (Or.inl rfl)) pgs_nil))) (fun _ _ _ _ _ => pts_one (pt_cmpR op_gt (pv 1) pe_int (nomark _)))
        (fun _ _ _ _ _ => pe_tup (pa_cons (pv 1) (pa_cons (pv 2) pa_nil)))))), ?_⟩
  have hxl : xs.length = b.length := by rw [hI.length, List.length_map]
  refine ⟨.ref l, rfl, l, rfl, ⟨xs, hS⟩, fun D nD => lc_it walk_list (fun i H3 => Gr T none H H3 ∧ ∃ zs, H3 D = some (.lst zs) ∧ ItemsV K H3 zs (b.take i)) ⟨gr_new nD, [], upd_same, .nil⟩ (fun _ _ _ hP => gr_sql hP.1 hS) (fun i x H3 H4 hi hP hY => ?_) (fun H3 hP => ?_)⟩
  · obtain ⟨g, zs, e, hz⟩ := hP
    obtain ⟨rfl, hx⟩ := hY
    have hib : i < b.length := by omega
    obtain ⟨x', hx', ht⟩ := hI.get (i := i) (d := itemR b[i]) (by rw [List.getElem?_map, List.getElem?_eq_getElem hib]; rfl)
    rw [hx] at hx'
    cases hx'
    have hm := pb _ (List.getElem_mem hib)
    have hgb : b[i]? = some b[i] := List.getElem?_eq_getElem hib
    rw [List.take_add_one, hgb]
    have hzl : zs.length < sizeLine := by
      have h1 := hz.len
      rw [List.length_take] at h1
      show _ < 2 ^ 24
      omega
    generalize b[i] = q0 at ht hm ⊢
    obtain ⟨c0, p⟩ := q0
    obtain ⟨ia, ys, rfl, h1, h2⟩ := Tp.tuple_inv ht
    obtain ⟨u, ys, rfl, h3, h4⟩ := h2.cons_inv
    obtain ⟨v2, ys, rfl, h5, h6⟩ := h4.cons_inv
    cases h6.nil_inv
    cases h5.int_inv
    have hm' : 1 ≤ c0 := hm
    refine ⟨ia, _, rfl, g.sqt0 h1, rfl, _, _, rfl, _, _, rfl, rfl, rfl, .int (c0 : Int), rfl, (c0 : Int), 0, rfl, rfl, true, congrArg V.bl (decide_eq_true (by omega)), ?_⟩
    refine ⟨.int (c0 : Int), rfl, u, rfl, by show 2 ≤ sizeLine; decide, fun t1 n1 => ?_⟩
    have gx := gr_new (T := T) (t := none) n1 (o := .tup [.int (c0 : Int), u])
    obtain ⟨e6, g7, z7⟩ := push_item nD g e hz gx (ItemV.mk (c := c0) (p := p) (SqT.of upd_same) (gx.tp (g.tp h3)))
    exact ⟨zs, e6, hzl, g7, _, upd_same, z7⟩
  · obtain ⟨g, zs, e, hz⟩ := hP
    rw [List.take_of_length_le (by omega)] at hz
    refine .inl ⟨D, zs, rfl, SqL.of e, fun pt npt => ?_⟩
    have g4 : Gr T none H3 (upd H3 pt (.tup zs)) := gr_new npt
    exact q _ _ (g.trans g4) (PlanV.mk (SqT.of upd_same) (g4.tpAll hz))
/-! ### root_of -/
/-- None, or the counts divided -/
def RootV (K : PySem.W.Frag) (H : Hp) (u : V) (B : Pl) (k : Nat) : Prop := (k ∣ gcdL B ∧ PlanV K H u (divL B k)) ∨ (¬ k ∣ gcdL B ∧ u = .non)
def spRootOf (T : List NdefX.NTab) (K : PySem.W.Frag) : Sp := fun vs H Q _ => ∃ (v : V) (B : Pl) (k : Nat), vs = [v, .int (k : Int)] ∧ PlanV K H v B ∧ B.length ≤ 4000 ∧ 1 ≤ k ∧ k < 2 ^ 64 ∧ ∀ (u : V) (H' : Hp), Gr T none H H' → RootV K H' u B k → Q u H'
theorem scRootOf : FnScope ["plan", "n", "many", "part"] ["plan", "n"] (C8.fnScope sRootOf) := C8.fnScope_by (by decide +kernel)
theorem ok_root_of {T : List NdefX.NTab} (Df : DefN K mg "root_of" sRootOf ["plan", "n"]) (X : Txt mg) : C8.Cal P w K mg base 1 "root_of" (spRootOf T K) [] := by
  refine mkCal Df scRootOf (fun vs H Q E h => ?_) (fun f cdv A outer s H vs Q E hr h => ?_)
  · obtain ⟨v, B, k, rfl, _⟩ := h; rfl
  obtain ⟨v, B, k, rfl, hv, hbl, hk, hk2, q⟩ := h
  obtain ⟨a, xs, rfl, hS, hI⟩ := hv.inv
  refine ⟨_, pss_cons (ps_if (pt_val (pe_callB (cr_any rfl) (by rfl) X.any (by decide +kernel) (pa_cons
      (pe_lc (own := [("many", 2), ("part", 3)]) (g := gTup K 2 (gCons (gName 2) (gCons (gName 3) gNil))) (tt := tYes) rfl scRootOf.nd (pi_tup (pv 0)) (blkOk_by (N := ["plan", "n", "many", "part"]) (sc := C8.fnScope sRootOf) (by decide +kernel))
        (fun _ _ _ _ _ => pg_tup rfl (pgs_cons (pg_name (i := 2) scRootOf.nd rfl (Or.inl rfl)) (pgs_cons (pg_name (i := 3) scRootOf.nd rfl (Or.inl rfl)) pgs_nil))) (fun _ _ _ _ _ => pts_nil)
        (fun _ _ _ _ _ => pe_cmpR op_ne (pe_op op_mod (pv 2) (pv 1)) pe_int (nomark _))) pa_nil))) (pss_one (ps_ret pe_non)) pss_nil)
    (pss_one (ps_ret (pe_tupleOf (by rfl) X.tuple
      (pe_lc (own := [("many", 2), ("part", 3)]) (g := gTup K 2 (gCons (gName 2) (gCons (gName 3) gNil))) (tt := tYes) rfl scRootOf.nd (pi_tup (pv 0)) (blkOk_by (N := ["plan", "n", "many", "part"]) (sc := C8.fnScope sRootOf) (by decide +kernel))
        (fun _ _ _ _ _ => pg_tup rfl (pgs_cons (pg_name (i := 2) scRootOf.nd rfl (Or.inl rfl)) (pgs_cons (pg_name (i := 3) scRootOf.nd rfl (Or.inl rfl)) pgs_nil))) (fun _ _ _ _ _ => pts_nil)
        (fun _ _ _ _ _ => pe_tup (pa_cons (pe_op op_fdivW (pv 2) (pv 1)) (pa_cons (pv 3) pa_nil))))))), ?_⟩
  have hxl : xs.length = B.length := hI.len
  refine ⟨.ref a, rfl, a, rfl, ⟨xs, hS⟩, fun D nD => lc_it walk_tup (fun i H3 => Gr T none H H3 ∧ H3 D = some (.lst ((B.take i).map fun q => V.bl (!decide (k ∣ q.1))))) ⟨gr_new nD, upd_same⟩ (fun _ _ _ hP => hP.1.sqt0 hS) (fun i x H3 H4 hi hP hY => ?_) (fun H3 hP => ?_)⟩
  · obtain ⟨g, e⟩ := hP
    obtain ⟨rfl, hx⟩ := hY
    have hib : i < B.length := by omega
    obtain ⟨x', hx', ht⟩ := hI.get (List.getElem?_eq_getElem hib)
    rw [hx] at hx'
    cases hx'
    rw [take_snoc _ (List.getElem?_eq_getElem hib)]
    generalize B[i] = q0 at ht ⊢
    obtain ⟨ia, u, rfl, hS2, hu⟩ := ht.inv
    refine ⟨ia, _, rfl, g.sqt0 hS2, rfl, _, _, rfl, _, _, rfl, rfl, rfl, .int (q0.1 : Int), rfl, .int (k : Int), rfl, (q0.1 : Int), (k : Int), rfl, rfl, by omega, rfl, _, e, ?_, ?_⟩
    · rw [List.length_map, List.length_take]
      show _ < 2 ^ 24
      omega
    · have ed : V.bl (!decide (V.int ((q0.1 : Int) % (k : Int)) = V.int 0)) = V.bl (!decide (k ∣ q0.1)) := by
        congr 2
        refine decide_eq_decide.mpr ⟨fun z => ?_, fun z => ?_⟩
        · have z := V.int.inj z
          exact Int.natCast_dvd_natCast.mp (Int.dvd_of_emod_eq_zero z)
        · rw [Int.emod_eq_zero_of_dvd (Int.natCast_dvd_natCast.mpr z)]
      show Gr T none H (upd H4 D (.lst (_ ++ [V.bl (!decide (V.int ((q0.1 : Int) % (k : Int)) = V.int 0))]))) ∧ _
      rw [ed]
      exact ⟨g.mut nD e (fun _ z => by cases z) (fun _ _ z => by cases z), upd_same⟩
  · obtain ⟨g, e⟩ := hP
    rw [List.take_of_length_le (by omega)] at e
    refine ⟨D, B.map fun q => !decide (k ∣ q.1), rfl, by rw [List.map_map]; exact SqL.of e, decide (¬ k ∣ gcdL B), ?_, ?_⟩
    · congr 1
      by_cases h : k ∣ gcdL B
      · rw [decide_eq_false (fun z => z h), List.any_eq_false]
        intro y hy
        obtain ⟨q0, hq0, rfl⟩ := List.mem_map.mp hy
        simp [gcdL_dvd.mp h q0 hq0]
      · rw [decide_eq_true h, List.any_eq_true]
        have h2 : ¬ ∀ q ∈ B, k ∣ q.1 := fun z => h (gcdL_dvd.mpr z)
        obtain ⟨q0, h3⟩ := Classical.not_forall.mp h2
        obtain ⟨h4, h5⟩ := Classical.not_imp.mp h3
        exact ⟨_, List.mem_map.mpr ⟨q0, h4, rfl⟩, by simp [h5]⟩
    by_cases h : k ∣ gcdL B
    · rw [decide_eq_false (fun z => z h)]
      refine iteF ?_
      refine ⟨.ref a, rfl, a, rfl, ⟨xs, g.sqt0 hS⟩, fun D2 nD2 => lc_it walk_tup (fun i H5 => Gr T none H3 H5 ∧ ∃ zs, H5 D2 = some (.lst zs) ∧ ItemsV K H5 zs ((B.take i).map fun q => (q.1 / k, q.2))) ⟨gr_new nD2, [], upd_same, .nil⟩ (fun _ _ _ hP => (g.trans hP.1).sqt0 hS) (fun i x H5 H6 hi hP hY => ?_) (fun H5 hP => ?_)⟩
      · obtain ⟨g5, zs, e5, hz⟩ := hP
        obtain ⟨rfl, hx⟩ := hY
        have hib : i < B.length := by omega
        obtain ⟨x', hx', ht⟩ := hI.get (List.getElem?_eq_getElem hib)
        rw [hx] at hx'
        cases hx'
        rw [take_snoc _ (List.getElem?_eq_getElem hib)]
        have hzl : zs.length < sizeLine := by
          have h1 := hz.len
          rw [List.length_map, List.length_take] at h1
          show _ < 2 ^ 24
          omega
        generalize B[i] = q0 at ht ⊢
        obtain ⟨ia, u, rfl, hS2, hu⟩ := ht.inv
        have hlog : ((k : Int)).natAbs.log2 < 9000 := by
          rw [Int.natAbs_natCast]
          have : k.log2 < 64 := (Nat.log2_lt (by omega)).mpr hk2
          omega
        refine ⟨ia, _, rfl, (g.trans g5).sqt0 hS2, rfl, _, _, rfl, _, _, rfl, rfl, rfl, .int (q0.1 : Int), rfl, .int (k : Int), rfl, (q0.1 : Int), (k : Int), rfl, rfl, ⟨by omega, hlog⟩, u, rfl, by show 2 ≤ sizeLine; decide, fun t1 n1 => ?_⟩
        have gx := gr_new (T := T) (t := none) n1 (o := .tup [.int ((q0.1 : Int) / (k : Int)), u])
        have z2 : (((q0.1 / k : Nat)) : Int) = (q0.1 : Int) / (k : Int) := by push_cast; rfl
        obtain ⟨e6, g7, z7⟩ := push_item nD2 g5 e5 hz gx (ItemV.mk (c := q0.1 / k) (p := q0.2) (by rw [z2]; exact SqT.of upd_same) (gx.tp ((g.trans g5).tp hu)))
        exact ⟨zs, e6, hzl, g7, _, upd_same, z7⟩
      · obtain ⟨g5, zs, e5, hz⟩ := hP
        rw [List.take_of_length_le (by omega)] at hz
        refine .inl ⟨D2, zs, rfl, SqL.of e5, fun pt npt => ?_⟩
        have g4 : Gr T none H5 (upd H5 pt (.tup zs)) := gr_new npt
        exact q _ _ ((g.trans g5).trans g4) (.inl ⟨h, PlanV.mk (SqT.of upd_same) (g4.tpAll hz)⟩)
    · rw [decide_eq_true h]
      exact iteT (q _ _ g (.inr ⟨h, rfl⟩))
end
end G6

set_option autoImplicit false
set_option Elab.async false
set_option linter.all false
set_option maxRecDepth 100000
set_option maxHeartbeats 4000000
/-! times, root, greatest_root. -/
namespace G6
open PySem PySem.Spec PyProof.Rows L2 NdefX LamX
section
variable {P : Program} {w : World} {K : PySem.W.Frag} {mg : Str → Option Value} {base : Heap} {T' : List (Addr × Str)}
theorem mul_len (b : Pl) (k : Nat) : (mulL b k).length = b.length := by unfold mulL; rw [List.length_map]
theorem div_len (b : Pl) (k : Nat) : (divL b k).length = b.length := by unfold divL; rw [List.length_map]
def spTimes (T' : List (Addr × Str)) (K : PySem.W.Frag) (D : Nat) : Sp := fun vs H Q _ => ∃ (v : V) (b : Pl) (k : Nat), vs = [v, .int (k : Int)] ∧ PlanV K H v b ∧ FitL 0 b ∧ dpL b < D ∧ 1 ≤ k ∧ k ≤ 10 ^ 30 ∧ TabsN (nT T') H ∧
  ∀ (u : V) (H' : Hp), Gr (nT T') none H H' → PlanV K H' u (mulL (plainOf b) k) → Q u H'
theorem scTimes : FnScope ["plan", "n", "many", "part"] ["plan", "n"] (C8.fnScope sTimes) := C8.fnScope_by (by decide +kernel)
theorem ok_times (Df : DefN K mg "times" sTimes ["plan", "n"]) (X : Txt mg) {D L : Nat} (hL : 3 ≤ L) (cC : C8.Cal P w K mg base L "check_plan" (spCheckPlan (nT T') K D) []) (cN : C8.Cal P w K mg base 3 "check_count" spCheckCount []) (cP : C8.Cal P w K mg base L "plain_of" (spPlain T' K D) [])
    (cB : C8.Cal P w K mg base 1 "bag" (spBag (nT T') K) []) : C8.Cal P w K mg base (L + 1) "times" (spTimes T' K D) [] := by
  refine mkCal Df scTimes (fun vs H Q E h => ?_) (fun f cdv A outer s H vs Q E hr h => ?_)
  · obtain ⟨v, b, k, rfl, _⟩ := h; rfl
  obtain ⟨v, b, k, rfl, hv, hg, hd, hk, hk2, hT, q⟩ := h
  obtain ⟨tc, hC⟩ := X.mostCopies
  refine ⟨_, pss_cons (ps_expr (C8.pe_c cC hr (Nat.le_refl _) (by rfl) (pa_cons (pv 0) pa_nil)))
    (pss_cons (ps_expr (C8.pe_c cN hr hL (by rfl) (pa_cons (pv 1) (pa_cons pe_int (pa_cons (pe_glob (v := .int (10 ^ 30)) (by rfl) hC ⟨tc, rfl⟩) pa_nil)))))
    (pss_one (ps_ret (C8.pe_c cB hr (by omega) (by rfl) (pa_cons
      (pe_lc (own := [("many", 2), ("part", 3)]) (g := gTup K 2 (gCons (gName 2) (gCons (gName 3) gNil))) (tt := tYes) rfl scTimes.nd (pi_tup (C8.pe_c cP hr (Nat.le_refl _) (by rfl) (pa_cons (pv 0) pa_nil))) (blkOk_by (N := ["plan", "n", "many", "part"]) (sc := C8.fnScope sTimes) (by decide +kernel))
        (fun _ _ _ _ _ => pg_tup rfl (pgs_cons (pg_name (i := 2) scTimes.nd rfl (Or.inl rfl)) (pgs_cons (pg_name (i := 3) scTimes.nd rfl (Or.inl rfl)) pgs_nil))) (fun _ _ _ _ _ => pts_nil)
        (fun _ _ _ _ _ => pe_tup (pa_cons (pv 3) (pa_cons (pe_op op_mul (pv 2) (pv 1)) pa_nil)))) pa_nil))))), ?_⟩
  refine ⟨v, rfl, v, b, rfl, hv, hg.good, hd, fun H1 g1 => ?_⟩
  refine ⟨_, rfl, (k : Int), 0, (10 ^ 30 : Int), rfl, by omega, by exact_mod_cast hk2, ?_⟩
  refine ⟨v, rfl, v, b, 0, rfl, g1.tp hv, hg, hd, g1.tabs hT, fun r H2 g2 hr2 => ?_⟩
  obtain ⟨a, xs, rfl, hS, hI⟩ := hr2.inv
  have hp := hg.plain
  have hpl := hp.len
  have hxl : xs.length = (plainOf b).length := hI.len
  have g12 := g1.trans g2
  refine ⟨a, rfl, ⟨xs, hS⟩, fun D nD => lc_it walk_tup (fun i H3 => Gr (nT T') none H2 H3 ∧ ∃ zs, H3 D = some (.lst zs) ∧ TpAll K H3 zs (((plainOf b).take i).map fun q => itemR (q.1 * k, q.2))) ⟨gr_new nD, [], upd_same, .nil⟩ (fun _ _ _ hP => hP.1.sqt0 hS) (fun i x H3 H4 hi hP hY => ?_) (fun H3 hP => ?_)⟩
  · obtain ⟨g, zs, e, hz⟩ := hP
    obtain ⟨rfl, hx⟩ := hY
    have hib : i < (plainOf b).length := by omega
    obtain ⟨x', hx', ht⟩ := hI.get (List.getElem?_eq_getElem hib)
    rw [hx] at hx'
    cases hx'
    rw [take_snoc _ (List.getElem?_eq_getElem hib)]
    have hcnt := hp.cnt (List.getElem_mem hib)
    have hzl : zs.length < sizeLine := by
      have h1 : zs.length = _ := hz.length
      rw [List.length_map, List.length_take] at h1
      show _ < 2 ^ 24
      omega
    generalize (plainOf b)[i] = q0 at ht hcnt ⊢
    obtain ⟨ia, u, rfl, hS2, hu⟩ := ht.inv
    refine ⟨ia, _, rfl, g.sqt0 hS2, rfl, _, _, rfl, _, _, rfl, rfl, rfl, u, rfl, .int (q0.1 : Int), rfl, .int (k : Int), rfl, (q0.1 : Int), (k : Int), rfl, rfl, .inl ⟨by omega, by omega⟩, by show 2 ≤ sizeLine; decide, fun t1 n1 => ?_⟩
    have gx := gr_new (T := nT T') (t := none) n1 (o := .tup [u, .int ((q0.1 : Int) * (k : Int))])
    have z2 : (((q0.1 * k : Nat)) : Int) = (q0.1 : Int) * (k : Int) := by push_cast; rfl
    have e6 := gx.lst e
    have keep : ∀ a ys, SqT K (upd H4 t1 (.tup [u, .int ((q0.1 : Int) * (k : Int))])) a ys → SqT K (upd (upd H4 t1 (.tup [u, .int ((q0.1 : Int) * (k : Int))])) D (.lst (zs ++ [.ref t1]))) a ys := fun a ys z => sqt_upd e6 z
    refine ⟨zs, e6, hzl, (g.trans gx).mut nD e6 (fun _ z => by cases z) (fun _ _ z => by cases z), _, upd_same, tpAll_snoc (TpAll.ext keep _ _ (gx.tpAll hz)) (.tup (keep _ _ (SqT.of upd_same)) (.cons (Tp.ext keep _ _ (gx.tp (g.tp hu))) (.cons ?_ .nil)))⟩
    rw [z2]
    exact .int _
  · obtain ⟨g, zs, e, hz⟩ := hP
    rw [List.take_of_length_le (by omega)] at hz
    refine ⟨D, zs, mulL (plainOf b) k, rfl, SqL.of e, by unfold mulL; rw [List.map_map]; exact hz, mul_pos hp.good.pos hk, by rw [mul_len]; exact hpl, fun u H' g' hu => q u H' ((g12.trans g).trans g') hu⟩
/-! ### root -/
def spRoot (T' : List (Addr × Str)) (K : PySem.W.Frag) (D : Nat) : Sp := fun vs H Q _ => ∃ (v : V) (b : Pl) (k : Nat), vs = [v, .int (k : Int)] ∧ PlanV K H v b ∧ FitL 0 b ∧ dpL b < D ∧ 1 ≤ k ∧ k < 2 ^ 64 ∧ TabsN (nT T') H ∧
  ∀ (u : V) (H' : Hp), Gr (nT T') none H H' → RootV K H' u (plainOf b) k → Q u H'
theorem scRoot : FnScope ["plan", "n"] ["plan", "n"] (C8.fnScope sRoot) := C8.fnScope_by (by decide +kernel)
theorem ok_root (Df : DefN K mg "root" sRoot ["plan", "n"]) (X : Txt mg) {D L : Nat} (hL : 3 ≤ L) (cC : C8.Cal P w K mg base L "check_plan" (spCheckPlan (nT T') K D) []) (cN : C8.Cal P w K mg base 3 "check_count" spCheckCount []) (cP : C8.Cal P w K mg base L "plain_of" (spPlain T' K D) [])
    (cR : C8.Cal P w K mg base 1 "root_of" (spRootOf (nT T') K) []) : C8.Cal P w K mg base (L + 1) "root" (spRoot T' K D) [] := by
  refine mkCal Df scRoot (fun vs H Q E h => ?_) (fun f cdv A outer s H vs Q E hr h => ?_)
  · obtain ⟨v, b, k, rfl, _⟩ := h; rfl
  obtain ⟨v, b, k, rfl, hv, hg, hd, hk, hk2, hT, q⟩ := h
  obtain ⟨tc, hC⟩ := X.mostCopies
  refine ⟨_, pss_cons (ps_expr (C8.pe_c cC hr (Nat.le_refl _) (by rfl) (pa_cons (pv 0) pa_nil)))
    (pss_cons (ps_expr (C8.pe_c cN hr hL (by rfl) (pa_cons (pv 1) (pa_cons pe_int (pa_cons (pe_glob (v := .int (10 ^ 30)) (by rfl) hC ⟨tc, rfl⟩) pa_nil)))))
    (pss_one (ps_ret (C8.pe_c cR hr (by omega) (by rfl) (pa_cons (C8.pe_c cP hr (Nat.le_refl _) (by rfl) (pa_cons (pv 0) pa_nil)) (pa_cons (pv 1) pa_nil)))))), ?_⟩
  refine ⟨v, rfl, v, b, rfl, hv, hg.good, hd, fun H1 g1 => ?_⟩
  refine ⟨_, rfl, (k : Int), 1, (10 ^ 30 : Int), rfl, by omega, by omega, ?_⟩
  refine ⟨v, rfl, v, b, 0, rfl, g1.tp hv, hg, hd, g1.tabs hT, fun r H2 g2 hr2 => ?_⟩
  exact ⟨_, rfl, r, plainOf b, k, rfl, hr2, hg.plain.len, hk, hk2, fun u H' g' hu => q u H' ((g1.trans g2).trans g') hu⟩
/-! ### greatest_root -/
def greatD (B : Pl) : PyData := if gcdL B = 0 then .tuple [.int 0, .tuple []] else .tuple [.int (gcdL B : Int), planD (divL B (gcdL B))]
def spGreatest (T' : List (Addr × Str)) (K : PySem.W.Frag) (D : Nat) : Sp := fun vs H Q _ => ∃ (v : V) (b : Pl), vs = [v] ∧ PlanV K H v b ∧ FitL 0 b ∧ dpL b < D ∧ TabsN (nT T') H ∧
  ∀ (u : V) (H' : Hp), Gr (nT T') none H H' → Tp K H' u (greatD (plainOf b)) → Q u H'
theorem scGreatest : FnScope ["plan", "form", "shared", "many", "part"] ["plan"] (C8.fnScope sGreatestRoot) := C8.fnScope_by (by decide +kernel)
theorem gcd_take (b : Pl) {i : Nat} {q : Nat × Pt} (h : b[i]? = some q) : gcdL (b.take (i + 1)) = Nat.gcd (gcdL (b.take i)) q.1 := by
  unfold gcdL
  rw [List.take_add_one, h]
  simp
theorem ok_greatest (Df : DefN K mg "greatest_root" sGreatestRoot ["plan"]) (X : Txt mg) {D L : Nat} (hL : 3 ≤ L) (cC : C8.Cal P w K mg base L "check_plan" (spCheckPlan (nT T') K D) []) (cP : C8.Cal P w K mg base L "plain_of" (spPlain T' K D) [])
    (cR : C8.Cal P w K mg base 1 "root_of" (spRootOf (nT T') K) []) : C8.Cal P w K mg base (L + 1) "greatest_root" (spGreatest T' K D) [] := by
  refine mkCal Df scGreatest (fun vs H Q E h => ?_) (fun f cdv A outer s H vs Q E hr h => ?_)
  · obtain ⟨v, b, rfl, _⟩ := h; rfl
  obtain ⟨v, b, rfl, hv, hg, hd, hT, q⟩ := h
  refine ⟨_, pss_cons (ps_expr (C8.pe_c cC hr (Nat.le_refl _) (by rfl) (pa_cons (pv 0) pa_nil)))
    (pss_cons (ps_set (i := 1) scGreatest.nd rfl (.inl rfl) (C8.pe_c cP hr (Nat.le_refl _) (by rfl) (pa_cons (pv 0) pa_nil)))
    (pss_cons (ps_set (i := 2) scGreatest.nd rfl (.inl rfl) pe_int)
    (pss_cons (ps_for PassesOwn.never rfl (pi_tup (pv 1)) (pg_tup rfl (pgs_cons (pg_name (i := 3) scGreatest.nd rfl (Or.inl rfl)) (pgs_cons (pg_name (i := 4) scGreatest.nd rfl (Or.inl rfl)) pgs_nil)))
      (pss_one (ps_while PassesOwn.never (pt_cmpR op_gt (pv 3) pe_int (nomark _)) (pss_one (ps_par (i := 2) (j := 3) rfl scGreatest.nd rfl rfl (by decide) rfl rfl (pa_cons (pv 3) (pa_cons (pe_op op_mod (pv 2) (pv 3)) pa_nil)) (by rfl))))))
    (pss_one (ps_ret (pe_ifExp (pt_cmpR op_eq (pv 2) pe_int (nomark _)) (pe_tup (pa_cons pe_int (pa_cons (pe_tup pa_nil) pa_nil))) (pe_tup (pa_cons (pv 2) (pa_cons (C8.pe_c cR hr (by omega) (by rfl) (pa_cons (pv 1) (pa_cons (pv 2) pa_nil))) pa_nil))))))))), ?_⟩
  refine ⟨v, rfl, v, b, rfl, hv, hg.good, hd, fun H1 g1 => ?_⟩
  refine ⟨v, rfl, v, b, 0, rfl, g1.tp hv, hg, hd, g1.tabs hT, fun r H2 g2 hr2 => ?_⟩
  have hp := hg.plain
  obtain ⟨a, xs, rfl, hS, hI⟩ := hr2.inv
  have hxl : xs.length = (plainOf b).length := hI.len
  refine ⟨.ref a, rfl, a, rfl, ⟨xs, hS⟩, for_it walk_tup (fun i σ H3 => H3 = H2 ∧ ∃ y1 y2, σ = [some v, some (.ref a), some (.int (gcdL ((plainOf b).take i) : Int)), y1, y2]) ⟨rfl, none, none, rfl⟩ (fun i σ H3 _ hP => hP.1 ▸ hS) (fun i x σ H3 H4 hi hP hY => ?_) (fun σ H3 hP => ?_)⟩
  · obtain ⟨rfl, y1, y2, rfl⟩ := hP
    obtain ⟨rfl, hx⟩ := hY
    have hib : i < (plainOf b).length := by omega
    obtain ⟨x', hx', ht⟩ := hI.get (List.getElem?_eq_getElem hib)
    rw [hx] at hx'
    cases hx'
    rw [gcd_take _ (List.getElem?_eq_getElem hib)]
    generalize (plainOf b)[i] = q0 at ht ⊢
    generalize gcdL ((plainOf b).take i) = g0
    obtain ⟨ia, u, rfl, hS2, hu⟩ := ht.inv
    refine ⟨ia, _, rfl, hS2, rfl, _, _, rfl, _, _, rfl, rfl, fun m σ H => ∃ s : Nat, H = H4 ∧ σ = [some v, some (.ref a), some (.int (s : Int)), some (.int (m : Int)), some u] ∧ Nat.gcd s m = Nat.gcd g0 q0.1, ⟨q0.1, g0, rfl, rfl, rfl⟩, fun m σ H hW => ?_⟩
    obtain ⟨s0, rfl, rfl, hgc⟩ := hW
    refine ⟨.int (m : Int), rfl, (m : Int), 0, rfl, rfl, decide (0 < m), congrArg V.bl (decide_eq_decide.mpr ⟨fun z => by omega, fun z => by omega⟩), ?_⟩
    by_cases hm : 0 < m
    · rw [decide_eq_true hm]
      refine iteT ⟨fun σ' H' => ∃ m', m' < m ∧ ∃ s : Nat, H' = H ∧ σ' = [some v, some (.ref a), some (.int (s : Int)), some (.int (m' : Int)), some u] ∧ Nat.gcd s m' = Nat.gcd g0 q0.1, fun σ' H' hN => hN, ?_⟩
      refine ⟨.int (m : Int), rfl, .int (s0 : Int), rfl, .int (m : Int), rfl, (s0 : Int), (m : Int), rfl, rfl, by omega, _, _, rfl, s0 % m, Nat.mod_lt _ hm, m, rfl, ?_, ?_⟩
      · have z2 : ((s0 % m : Nat) : Int) = (s0 : Int) % (m : Int) := by push_cast; rfl
        rw [z2]
        rfl
      · rw [← hgc, Nat.gcd_comm m (s0 % m), ← Nat.gcd_rec, Nat.gcd_comm]
    · rw [decide_eq_false hm]
      have e0 : m = 0 := by omega
      subst e0
      rw [Nat.gcd_zero_right] at hgc
      exact iteF ⟨rfl, _, _, by rw [← hgc]⟩
  · obtain ⟨rfl, y1, y2, rfl⟩ := hP
    rw [List.take_of_length_le (by omega)]
    refine ⟨.int (gcdL (plainOf b) : Int), rfl, rfl, decide (gcdL (plainOf b) = 0), congrArg V.bl (decide_eq_decide.mpr ⟨fun z => by have := V.int.inj z; omega, fun z => by rw [z]; rfl⟩), ?_⟩
    by_cases h0 : gcdL (plainOf b) = 0
    · rw [decide_eq_true h0]
      refine iteT ⟨Nat.zero_le _, fun t1 n1 => ⟨by show 2 ≤ sizeLine; decide, fun t2 n2 => ?_⟩⟩
      have gx := gr_new (T := nT T') (t := none) n1 (o := .tup [])
      have gy := gr_new (T := nT T') (t := none) n2 (o := .tup [.int 0, .ref t1])
      refine q _ _ (((g1.trans g2).trans gx).trans gy) ?_
      unfold greatD
      rw [if_pos h0]
      exact .tup (SqT.of upd_same) (.cons (.int _) (.cons (.tup (gy.sqt0 (SqT.of upd_same)) .nil) .nil))
    · rw [decide_eq_false h0]
      have hne : plainOf b ≠ [] := fun z => h0 (by rw [z]; rfl)
      obtain ⟨q1, hq1⟩ := List.exists_mem_of_ne_nil _ hne
      have hgl := gcdL_le hp.good.pos hq1
      have hcn := hp.cnt hq1
      refine iteF ⟨.int (gcdL (plainOf b) : Int), rfl, .ref a, rfl, .int (gcdL (plainOf b) : Int), rfl, .ref a, plainOf b, gcdL (plainOf b), rfl, hr2, hp.len, by omega, by omega, fun u H' g' hu => ⟨by show 2 ≤ sizeLine; decide, fun t2 n2 => ?_⟩⟩
      have gy := gr_new (T := nT T') (t := none) n2 (o := .tup [.int (gcdL (plainOf b) : Int), u])
      refine q _ _ (((g1.trans g2).trans g').trans gy) ?_
      unfold greatD
      rw [if_neg h0]
      rcases hu with ⟨_, hu⟩ | ⟨hn, _⟩
      · exact .tup (SqT.of upd_same) (.cons (.int _) (.cons (gy.tp hu) .nil))
      · exact absurd (Nat.dvd_refl _) hn
end
end G6

set_option autoImplicit false
set_option Elab.async false
set_option linter.all false
set_option maxRecDepth 100000
set_option maxHeartbeats 4000000
/-! The law's tape. -/
namespace G6
open PySem PySem.Spec PyProof.Rows L2 NdefX LamX
structure TapeOk (H : Hp) (t sc : Addr) : Prop where
  ex : ∃ (ns : List Int) (pos : Nat) (acc mix cnt : Int), H t = some (.lst [.ref sc, .int (pos : Int), .int acc, .int mix, .int cnt]) ∧ H sc = some (.lst (ns.map V.int)) ∧ sc ≠ t
section
variable {P : Program} {w : World} {K : PySem.W.Frag} {mg : Str → Option Value} {base : Heap} {T : List NdefX.NTab}
theorem gr_lst {H : Hp} {t : Addr} {l l' : List V} (e : H t = some (.lst l)) : Gr T (some t) H (upd H t (.lst l')) := by
  refine ⟨fun b o h n _ => ?_, fun z => ?_, fun b h => upd_none h⟩
  · rw [upd_ne fun z => n (by rw [z])]
    exact h
  · intro x hx
    obtain ⟨ps, h1, h2, h3⟩ := z x hx
    have key : ∀ b o, H b = some o → (∀ l, o ≠ .lst l) → upd H t (.lst l') b = some o := fun b o h n => by
      rw [upd_ne fun z => ?_]
      · exact h
      · rw [z, e] at h
        exact n l (Option.some.inj h).symm
    refine ⟨ps, key _ _ h1 (fun l z => by cases z), h2, fun pos cv hcv => ?_⟩
    obtain ⟨c, e1, e2⟩ := h3 pos cv hcv
    exact ⟨c, e1, key _ _ e2 fun l z => by unfold CodeO at z; cases z⟩
theorem sql_upd {H : Hp} {t a : Addr} {o : HO} {xs : List V} (ht : a ≠ t) (h : SqL K H a xs) : SqL K (upd H t o) a xs := by
  have key : ∀ u : HO, H a = some u → upd H t o a = some u := fun u e => by rw [upd_ne ht]; exact e
  rcases h with (h | ⟨o', h⟩) | h
  · exact .inl (.inl (key _ h))
  · exact .inl (.inr ⟨o', key _ h⟩)
  · exact .inr h
/-- the tape where all else grows -/
theorem TapeOk.gr {H H' : Hp} {t sc : Addr} (h : TapeOk H t sc) (g : Gr T none H H') : TapeOk H' t sc := by
  obtain ⟨ns, pos, acc, mix, cnt, e, hS, hne⟩ := h.ex
  exact ⟨ns, pos, acc, mix, cnt, g.lst e, g.lst hS, hne⟩
theorem TapeOk.isl {H : Hp} {t sc : Addr} (h : TapeOk H t sc) : ∀ b, some t = some b → ∃ l, H b = some (.lst l) := fun b z => by
  obtain ⟨ns, pos, acc, mix, cnt, e, _⟩ := h.ex
  cases z
  exact ⟨_, e⟩
/-- .. where a row of ours changes -/
theorem TapeOk.other {H : Hp} {t sc Da : Addr} {o : HO} (h : TapeOk H t sc) (n1 : Da ≠ t) (n2 : Da ≠ sc) : TapeOk (upd H Da o) t sc := by
  obtain ⟨ns, pos, acc, mix, cnt, e, hS, hne⟩ := h.ex
  exact ⟨ns, pos, acc, mix, cnt, by rw [upd_ne n1.symm]; exact e, by rw [upd_ne n2.symm]; exact hS, hne⟩
theorem TapeOk.apart {H : Hp} {t sc Da : Addr} (h : TapeOk H t sc) (n : H Da = none) : Da ≠ t ∧ Da ≠ sc := by
  obtain ⟨ns, pos, acc, mix, cnt, e, hS, hne⟩ := h.ex
  exact ⟨(ne_of_none e n).symm, (ne_of_none hS n).symm⟩
def spPick (T : List NdefX.NTab) (K : PySem.W.Frag) : Sp := fun vs H Q _ => ∃ (t sc : Addr) (m : Nat), vs = [.ref t, .int (m : Int)] ∧ TapeOk H t sc ∧ 1 ≤ m ∧ m ≤ 10000 ∧ ∀ (i : Nat) (H' : Hp), Gr T (some t) H H' → TapeOk H' t sc → i < m → Q (.int (i : Int)) H'
theorem scLawPick : FnScope ["_law_tape_here", "_law_many", "_law_digit", "_law_cell", "_law_mixed"] ["_law_tape_here", "_law_many"] (C8.fnScope sLawPick) := C8.fnScope_by (by decide +kernel)
theorem mod_nat {i m : Int} (hm : 0 < m) : ∃ j : Nat, i % m = (j : Int) ∧ (j : Int) < m := by
  have h1 := Int.emod_nonneg i (show m ≠ 0 by omega)
  have h2 := Int.emod_lt_of_pos i hm
  exact ⟨(i % m).toNat, by omega, by omega⟩
theorem ok_pick (Df : DefN K mg "_law_pick" sLawPick ["_law_tape_here", "_law_many"]) (X : Txt mg) : C8.Cal P w K mg base 1 "_law_pick" (spPick T K) [] := by
  refine mkCal Df scLawPick (fun vs H Q E h => ?_) (fun f cdv A outer s H vs Q E hr h => ?_)
  · obtain ⟨t, sc, m, rfl, _⟩ := h; rfl
  obtain ⟨t, sc, m, rfl, hT, hm1, hm2, q⟩ := h
  obtain ⟨ns, pos, acc, mix, cnt, e, hS, hne⟩ := hT.ex
  refine ⟨_, pss_cons (ps_if (pt_cmpR op_gt (pe_ix ix_list (pv 0) pe_int (fun _ _ => rfl)) pe_int (nomark _))
      (pss_cons (ps_set (i := 2) scLawPick.nd rfl (.inl rfl) (pe_op op_mod (pe_callTy call_int1 (by rfl) X.int (by decide +kernel) (pa_cons (pe_ix ix_list (pv 0) pe_int (fun _ _ => rfl)) pa_nil)) (pv 1)))
        (pss_cons (ps_asg (pe_op op_fdiv (pe_ix ix_list (pv 0) pe_int (fun _ _ => rfl)) (pv 1)) (pg_sub (pv 0) pe_int set_list))
        (pss_one (ps_ret (pv 2))))) pss_nil)
    (pss_cons (ps_asg (pe_op op_add (pe_ix ix_list (pv 0) pe_int (fun _ _ => rfl)) pe_int) (pg_sub (pv 0) pe_int set_list))
    (pss_cons (ps_set (i := 3) scLawPick.nd rfl (.inl rfl) pe_int)
    (pss_cons (ps_if (pt_cmpR op_lt (pe_ix ix_list (pv 0) pe_int (fun _ _ => rfl)) (pe_callB call_len_seq (by rfl) X.len PySem.boot_len (pa_cons (pe_ix ix_list (pv 0) pe_int (fun _ _ => rfl)) pa_nil)) (nomark _))
      (pss_cons (ps_set (i := 3) scLawPick.nd rfl (.inl rfl) (pe_ix ix_list (pe_ix ix_list (pv 0) pe_int (fun _ _ => rfl)) (pe_ix ix_list (pv 0) pe_int (fun _ _ => rfl)) (fun _ _ => rfl)))
        (pss_one (ps_asg (pe_op op_add (pe_ix ix_list (pv 0) pe_int (fun _ _ => rfl)) pe_int) (pg_sub (pv 0) pe_int set_list)))) pss_nil)
    (pss_cons (ps_if (pt_cmpR op_ge (pv 3) (pe_op op_pow pe_int pe_int) (nomark _))
      (pss_cons (ps_asg (pe_op op_fdiv (pv 3) (pv 1)) (pg_sub (pv 0) pe_int set_list))
        (pss_one (ps_ret (pe_op op_mod (pe_callTy call_int1 (by rfl) X.int (by decide +kernel) (pa_cons (pv 3) pa_nil)) (pv 1))))) pss_nil)
    (pss_cons (ps_set (i := 4) scLawPick.nd rfl (.inl rfl) (pe_op op_mod (pe_callTy call_int1 (by rfl) X.int (by decide +kernel) (pa_cons (pe_op op_add (pe_op op_add (pe_op op_mul (pe_ix ix_list (pv 0) pe_int (fun _ _ => rfl)) pe_int)
        (pe_op op_mod (pe_callTy call_int1 (by rfl) X.int (by decide +kernel) (pa_cons (pv 3) pa_nil)) pe_int)) (pe_op op_mul (pe_ix ix_list (pv 0) pe_int (fun _ _ => rfl)) pe_int)) pa_nil)) pe_int))
    (pss_cons (ps_set (i := 4) scLawPick.nd rfl (.inl rfl) (pe_op op_mod (pe_callTy call_int1 (by rfl) X.int (by decide +kernel) (pa_cons (pe_op op_mul (pv 4) (pe_op op_add (pe_op op_fdiv (pv 4) pe_int) pe_int)) pa_nil)) pe_int))
    (pss_cons (ps_asg (pv 4) (pg_sub (pv 0) pe_int set_list))
    (pss_one (ps_ret (pe_op op_mod (pe_callTy call_int1 (by rfl) X.int (by decide +kernel) (pa_cons (pe_op op_fdiv (pv 4) pe_int) pa_nil)) (pv 1))))))))))), ?_⟩
  have hmI : (0 : Int) < (m : Int) := by omega
  have fin : ∀ (z : Int) (H3 : Hp), Gr T (some t) H H3 → TapeOk H3 t sc → Q (.int (z % (m : Int))) H3 := fun z H3 g h => by
    obtain ⟨j, hj, hjm⟩ := mod_nat (i := z) hmI
    rw [hj]
    exact q j H3 g h (by omega)
  refine ⟨.ref t, rfl, t, _, 2, .int acc, rfl, rfl, SqL.of e, atI_nat (j := 2) rfl, acc, 1, rfl, rfl, decide (1 < acc), rfl, ?_⟩
  by_cases ha : 1 < acc
  · rw [decide_eq_true ha]
    refine iteT ⟨.ref t, rfl, t, _, 2, .int acc, rfl, rfl, SqL.of e, atI_nat (j := 2) rfl, .inl ⟨acc, rfl, .int (m : Int), rfl, acc, (m : Int), rfl, rfl, hmI, ?_⟩⟩
    refine ⟨.ref t, rfl, t, _, 2, .int acc, rfl, rfl, SqL.of e, atI_nat (j := 2) rfl, .int (m : Int), rfl, acc, (m : Int), rfl, rfl, ⟨by omega, by omega⟩, .ref t, rfl, t, _, 2, 2, rfl, rfl, e, rfl, ?_⟩
    refine ⟨.int (acc % (m : Int)), rfl, ?_⟩
    exact fin _ _ (gr_lst e) ⟨ns, pos, _, mix, cnt, upd_same, (by rw [upd_ne hne]; exact hS), hne⟩
  · rw [decide_eq_false ha]
    refine iteF ⟨.ref t, rfl, t, _, 4, .int cnt, rfl, rfl, SqL.of e, atI_nat (j := 4) rfl, cnt, 1, rfl, rfl, .ref t, rfl, t, _, 4, 4, rfl, rfl, e, rfl, ?_⟩
    have g1 : Gr T (some t) H (upd H t (.lst ([V.ref sc, .int (pos : Int), .int acc, .int mix, .int cnt].set 4 (.int (cnt + 1))))) := gr_lst e
    have e1 : upd H t (.lst ([V.ref sc, .int (pos : Int), .int acc, .int mix, .int cnt].set 4 (.int (cnt + 1)))) t = some (.lst [V.ref sc, .int (pos : Int), .int acc, .int mix, .int (cnt + 1)]) := upd_same
    have hS1 : upd H t (.lst ([V.ref sc, .int (pos : Int), .int acc, .int mix, .int cnt].set 4 (.int (cnt + 1)))) sc = some (.lst (ns.map V.int)) := by rw [upd_ne hne]; exact hS
    generalize upd H t (.lst ([V.ref sc, .int (pos : Int), .int acc, .int mix, .int cnt].set 4 (.int (cnt + 1)))) = H1 at g1 e1 hS1 ⊢
    have hcmp : V.bl (decide ((pos : Int) < ((ns.map V.int).length : Int))) = V.bl (decide (pos < ns.length)) := by
      rw [List.length_map]
      exact congrArg V.bl (decide_eq_decide.mpr ⟨fun z => by omega, fun z => by omega⟩)
    refine ⟨.ref t, rfl, t, _, 1, .int (pos : Int), rfl, rfl, SqL.of e1, atI_nat (j := 1) rfl, .ref t, rfl, t, _, 0, .ref sc, rfl, rfl, SqL.of e1, atI_nat (j := 0) rfl, sc, _, rfl, .inl (SqL.of hS1), (pos : Int), ((ns.map V.int).length : Int), rfl, rfl, decide (pos < ns.length), hcmp, ?_⟩
    by_cases hp : pos < ns.length
    case' pos =>
      rw [decide_eq_true hp]
      refine iteT ⟨.ref t, rfl, t, _, 0, .ref sc, rfl, rfl, SqL.of e1, atI_nat (j := 0) rfl, .ref t, rfl, t, _, 1, .int (pos : Int), rfl, rfl, SqL.of e1, atI_nat (j := 1) rfl, sc, _, (pos : Int), .int ns[pos], rfl, rfl, SqL.of hS1, atI_nat (j := pos) (by rw [List.getElem?_map, List.getElem?_eq_getElem hp]; rfl), ?_⟩
      refine ⟨.ref t, rfl, t, _, 1, .int (pos : Int), rfl, rfl, SqL.of e1, atI_nat (j := 1) rfl, (pos : Int), 1, rfl, rfl, .ref t, rfl, t, _, 1, 1, rfl, rfl, e1, rfl, ?_⟩
      have ez : (pos : Int) + 1 = ((pos + 1 : Nat) : Int) := by push_cast; rfl
      have g2 : Gr T (some t) H (upd H1 t (.lst ([V.ref sc, .int (pos : Int), .int acc, .int mix, .int (cnt + 1)].set 1 (.int ((pos : Int) + 1))))) := g1.trans (gr_lst e1)
      have e2 : upd H1 t (.lst ([V.ref sc, .int (pos : Int), .int acc, .int mix, .int (cnt + 1)].set 1 (.int ((pos : Int) + 1)))) t = some (.lst [V.ref sc, .int ((pos + 1 : Nat) : Int), .int acc, .int mix, .int (cnt + 1)]) := by rw [← ez]; exact upd_same
      have hS2 : upd H1 t (.lst ([V.ref sc, .int (pos : Int), .int acc, .int mix, .int (cnt + 1)].set 1 (.int ((pos : Int) + 1)))) sc = some (.lst (ns.map V.int)) := by rw [upd_ne hne]; exact hS1
      generalize upd H1 t (.lst ([V.ref sc, .int (pos : Int), .int acc, .int mix, .int (cnt + 1)].set 1 (.int ((pos : Int) + 1)))) = H2 at g2 e2 hS2 ⊢
      generalize ns[pos] = cell
      generalize pos + 1 = pos2 at e2
    case' neg =>
      rw [decide_eq_false hp]
      refine iteF ?_
      have g2 := g1
      have e2 := e1
      have hS2 := hS1
      generalize H1 = H2 at g2 e2 hS2 ⊢
      obtain ⟨cell, hcell⟩ : ∃ c : Int, V.int 0 = V.int c := ⟨0, rfl⟩
      rw [hcell]
      generalize pos = pos2 at e2
    all_goals
      refine ⟨.int cell, rfl, 10, 18, rfl, rfl, ⟨by decide, by decide, by decide⟩, cell, _, rfl, rfl, decide ((10 : Int) ^ (18 : Int).toNat ≤ cell), rfl, ?_⟩
      by_cases hc : (10 : Int) ^ (18 : Int).toNat ≤ cell
      · rw [decide_eq_true hc]
        refine iteT ⟨.int cell, rfl, .int (m : Int), rfl, cell, (m : Int), rfl, rfl, ⟨by omega, by omega⟩, .ref t, rfl, t, _, 2, 2, rfl, rfl, e2, rfl, ?_⟩
        refine ⟨.int cell, rfl, .inl ⟨cell, rfl, .int (m : Int), rfl, cell, (m : Int), rfl, rfl, hmI, ?_⟩⟩
        exact fin _ _ (g2.trans (gr_lst e2)) ⟨ns, _, _, mix, _, upd_same, (by rw [upd_ne hne]; exact hS2), hne⟩
      · rw [decide_eq_false hc]
        refine iteF ⟨.ref t, rfl, t, _, 3, .int mix, rfl, rfl, SqL.of e2, atI_nat (j := 3) rfl, mix, 48271, rfl, rfl, .inr ⟨by decide, by decide⟩, .int cell, rfl, .inl ⟨cell, rfl, cell, 2147483629, rfl, rfl, (by decide : (0 : Int) < 2147483629), _, _, rfl, rfl, ?_⟩⟩
        refine ⟨.ref t, rfl, t, _, 4, .int (cnt + 1), rfl, rfl, SqL.of e2, atI_nat (j := 4) rfl, cnt + 1, 69621, rfl, rfl, .inr ⟨by decide, by decide⟩, _, _, rfl, rfl, .inl ⟨_, rfl, _, 2147483647, rfl, rfl, (by decide : (0 : Int) < 2147483647), ?_⟩⟩
        refine ⟨_, rfl, _, rfl, _, 1009, rfl, rfl, ⟨by decide, by decide⟩, _, 40692, rfl, rfl, _, _, rfl, rfl, .inl ⟨by omega, by omega⟩, .inl ⟨_, rfl, _, 2147483399, rfl, rfl, (by decide : (0 : Int) < 2147483399), ?_⟩⟩
        refine ⟨_, rfl, .ref t, rfl, t, _, 3, 3, rfl, rfl, e2, rfl, ?_⟩
        refine ⟨_, rfl, _, 16, rfl, rfl, ⟨by decide, by decide⟩, .inl ⟨_, rfl, .int (m : Int), rfl, _, (m : Int), rfl, rfl, hmI, ?_⟩⟩
        exact fin _ _ (g2.trans (gr_lst e2)) ⟨ns, _, _, _, _, upd_same, (by rw [upd_ne hne]; exact hS2), hne⟩
end
end G6

set_option autoImplicit false
set_option Elab.async false
set_option linter.all false
set_option maxRecDepth 100000
set_option maxHeartbeats 4000000
/-! The law's tape, sizes. -/
namespace G6
open PySem PySem.Spec PyProof.Rows L2 NdefX LamX
section
variable {P : Program} {w : World} {K : PySem.W.Frag} {mg : Str → Option Value} {base : Heap} {T : List NdefX.NTab}
def spTape (T : List NdefX.NTab) (K : PySem.W.Frag) : Sp := fun vs H Q _ => ∃ (a : Addr) (ns : List Int), vs = [.ref a] ∧ SqL K H a (ns.map V.int) ∧ ∀ (t sc : Addr) (H' : Hp), Gr T none H H' → TapeOk H' t sc → Q (.ref t) H'
theorem scLawTape : FnScope ["_law_script"] ["_law_script"] (C8.fnScope sLawTape) := C8.fnScope_by (by decide +kernel)
theorem ok_tape (Df : DefN K mg "_law_tape" sLawTape ["_law_script"]) (X : Txt mg) : C8.Cal P w K mg base 1 "_law_tape" (spTape T K) [] := by
  refine mkCal Df scLawTape (fun vs H Q E h => ?_) (fun f cdv A outer s H vs Q E hr h => ?_)
  · obtain ⟨a, ns, rfl, _⟩ := h; rfl
  obtain ⟨a, ns, rfl, hS, q⟩ := h
  refine ⟨_, pss_one (ps_ret (pe_lst (pa_cons (pe_callTy call_list_of (by rfl) X.list (by decide +kernel) (pa_cons (pv 0) pa_nil)) (pa_cons pe_int (pa_cons pe_int (pa_cons pe_int (pa_cons pe_int pa_nil))))))), ?_⟩
  refine ⟨.ref a, rfl, a, _, rfl, .inl hS, fun l nl => ⟨by show 5 ≤ sizeLine; decide, fun t nt => ?_⟩⟩
  have g1 := gr_new (T := T) (t := none) nl (o := .lst (ns.map V.int))
  have g2 := gr_new (T := T) (t := none) nt (o := .lst [.ref l, .int 0, .int 0, .int 1, .int 0])
  refine q t l _ (g1.trans g2) ⟨ns, 0, 0, 1, 0, upd_same, ?_, fun z => ?_⟩
  · rw [upd_ne (ne_of_none upd_same nt)]
    exact upd_same
  · rw [z, upd_same] at nt
    cases nt
/-! ### sizes -/
def spPartSize (T : List NdefX.NTab) (K : PySem.W.Frag) (D : Nat) : Sp := fun vs H Q _ => ∃ (v : V) (p : Pt) (n : Nat), vs = [v] ∧ PartV K H v p ∧ FitP n p ∧ dp p ≤ D ∧ ∀ H', Gr T none H H' → Q (.int (sz p : Int)) H'
def spSize (T : List NdefX.NTab) (K : PySem.W.Frag) (D : Nat) : Sp := fun vs H Q _ => ∃ (v : V) (b : Pl) (n : Nat), vs = [v] ∧ PlanV K H v b ∧ FitL n b ∧ dpL b < D ∧ ∀ H', Gr T none H H' → Q (.int (szL b : Int)) H'
theorem scLawPartSize : FnScope ["_law_part_here"] ["_law_part_here"] (C8.fnScope sLawPartSize) := C8.fnScope_by (by decide +kernel)
theorem scLawSize : FnScope ["_law_plan_here", "_law_count", "_law_part_here"] ["_law_plan_here"] (C8.fnScope sLawSize) := C8.fnScope_by (by decide +kernel)
theorem ok_part_size (Df : DefN K mg "_law_part_size" sLawPartSize ["_law_part_here"]) (X : Txt mg) {n0 : Nat} (cL : C8.Cal P w K mg base (2 * n0 + 2) "_law_size" (spSize T K n0) []) : C8.Cal P w K mg base (2 * n0 + 3) "_law_part_size" (spPartSize T K n0) [] := by
  refine mkCal Df scLawPartSize (fun vs H Q E h => ?_) (fun f cdv A outer s H vs Q E hr h => ?_)
  · obtain ⟨v, p, n, rfl, _⟩ := h; rfl
  obtain ⟨v, p, n, rfl, hv, hg, hd, q⟩ := h
  refine ⟨_, pss_cons (ps_if (pt_cmpR op_eq (pe_callB call_len_seq (by rfl) X.len PySem.boot_len (pa_cons (pv 0) pa_nil)) pe_int (nomark _))
      (pss_one (ps_ret (pe_op op_add pe_int (C8.pe_c cL hr (Nat.le_refl _) (by rfl) (pa_cons (pe_ix ix_tup (pv 0) pe_int (fun _ _ => rfl)) pa_nil))))) pss_nil)
    (pss_one (ps_ret pe_int)), ?_⟩
  obtain ⟨va, xs, l, rfl, hS, hw, hl, hlab, hlen⟩ := part_at hv
  refine ⟨.ref va, rfl, va, xs, rfl, .inr hS, rfl, decide (xs.length = 3), dec_len rfl, ?_⟩
  rcases hlen with ⟨h3, ⟨w, dd, b, hp⟩, u0, hu0, hpl⟩ | ⟨h2, hb0, hnb⟩
  · subst hp
    rw [decide_eq_true h3]
    refine iteT (rd_ix (i := 0) (k := 2) rfl hS hu0 ⟨u0, b, _, rfl, hpl, hg.body.2, by rw [dp_box] at hd; omega, fun H1 g1 => ⟨1, (szL b : Int), rfl, rfl, ?_⟩⟩)
    have z := q H1 g1
    rw [sz_box] at z
    have z2 : (((1 + szL b : Nat)) : Int) = 1 + (szL b : Int) := by push_cast; rfl
    rw [z2] at z
    exact z
  · rw [decide_eq_false (by omega)]
    refine iteF ?_
    have e : sz p = 1 := by
      cases p with
      | name x => rw [sz]
      | got x => rw [sz]
      | box w d b => exact absurd rfl (hnb w d b)
    have z := q H (Gr.refl H)
    rw [e] at z
    exact z
theorem ok_size1 (Df : DefN K mg "_law_size" sLawSize ["_law_plan_here"]) (X : Txt mg) {n0 : Nat} (cP : C8.Cal P w K mg base (2 * n0 + 3) "_law_part_size" (spPartSize T K n0) []) : C8.Cal P w K mg base (2 * n0 + 4) "_law_size" (spSize T K (n0 + 1)) [] := by
  refine mkCal Df scLawSize (fun vs H Q E h => ?_) (fun f cdv A outer s H vs Q E hr h => ?_)
  · obtain ⟨v, b, n, rfl, _⟩ := h; rfl
  obtain ⟨v, b, n, rfl, hv, hg, hd, q⟩ := h
  obtain ⟨a, xs, rfl, hS, hI⟩ := hv.inv
  refine ⟨_, pss_one (ps_ret (pe_callB (cr_sum rfl) (by rfl) X.sum (by decide +kernel) (pa_cons
      (pe_lc (own := [("_law_count", 1), ("_law_part_here", 2)]) (g := gTup K 2 (gCons (gName 1) (gCons (gName 2) gNil))) (tt := tYes) rfl scLawSize.nd (pi_tup (pv 0)) (blkOk_by (N := ["_law_plan_here", "_law_count", "_law_part_here"]) (sc := C8.fnScope sLawSize) (by decide +kernel))
        (fun _ _ _ _ _ => pg_tup rfl (pgs_cons (pg_name (i := 1) scLawSize.nd rfl (Or.inl rfl)) (pgs_cons (pg_name (i := 2) scLawSize.nd rfl (Or.inl rfl)) pgs_nil))) (fun _ _ _ _ _ => pts_nil)
        (fun _ _ _ _ _ => pe_op op_mul (pv 1) (C8.pe_c cP hr (Nat.le_refl _) (by rfl) (pa_cons (pv 2) pa_nil)))) pa_nil))), ?_⟩
  have hxl : xs.length = b.length := hI.len
  refine ⟨.ref a, rfl, a, rfl, ⟨xs, hS⟩, fun D nD => lc_it walk_tup (fun i H3 => Gr T none H H3 ∧ H3 D = some (.lst ((b.take i).map fun q => V.int ((q.1 : Int) * (sz q.2 : Int))))) ⟨gr_new nD, upd_same⟩ (fun _ _ _ hP => hP.1.sqt0 hS) (fun i x H3 H4 hi hP hY => ?_) (fun H3 hP => ?_)⟩
  · obtain ⟨g, e⟩ := hP
    obtain ⟨rfl, hx⟩ := hY
    have hib : i < b.length := by omega
    obtain ⟨x', hx', ht⟩ := hI.get (List.getElem?_eq_getElem hib)
    rw [hx] at hx'
    cases hx'
    rw [take_snoc _ (List.getElem?_eq_getElem hib)]
    have hmem := List.getElem_mem hib
    have hfp := hg.mem hmem
    have hdm := dp_mem hmem
    have hcnt := hg.cnt hmem
    generalize b[i] = q0 at ht hfp hdm hcnt ⊢
    obtain ⟨ia, u, rfl, hS2, hu⟩ := ht.inv
    refine ⟨ia, _, rfl, g.sqt0 hS2, rfl, _, _, rfl, _, _, rfl, rfl, rfl, .int (q0.1 : Int), rfl, u, rfl, u, q0.2, n, rfl, g.tp hu, hfp, by omega, fun H5 g5 => ⟨(q0.1 : Int), (sz q0.2 : Int), rfl, rfl, .inl ⟨by omega, by omega⟩, _, g5.lst e, ?_, ?_⟩⟩
    · rw [List.length_map, List.length_take]
      have := hg.len
      show _ < 2 ^ 24
      omega
    · exact ⟨(g.trans g5).mut nD (g5.lst e) (fun _ z => by cases z) (fun _ _ z => by cases z), upd_same⟩
  · obtain ⟨g, e⟩ := hP
    rw [List.take_of_length_le (by omega)] at e
    refine ⟨D, b.map fun q => (q.1 : Int) * (sz q.2 : Int), rfl, by rw [List.map_map]; exact SqL.of e, ?_⟩
    rw [szL_sum]
    exact q H3 g
theorem ok_size (D1 : DefN K mg "_law_part_size" sLawPartSize ["_law_part_here"]) (D2 : DefN K mg "_law_size" sLawSize ["_law_plan_here"]) (X : Txt mg) : ∀ n, C8.Cal P w K mg base (2 * n + 2) "_law_size" (spSize T K n) []
  | 0 => calFalse D2 fun vs H Q E h => by
      obtain ⟨v, b, n, _, _, _, hd, _⟩ := h
      omega
  | n + 1 => ok_size1 D2 X (ok_part_size D1 X (ok_size D1 D2 X n))
end
end G6

set_option autoImplicit false
set_option Elab.async false
set_option linter.all false
set_option maxRecDepth 100000
set_option maxHeartbeats 4000000
/-! The law's plans. -/
namespace G6
open PySem PySem.Spec PyProof.Rows L2 NdefX LamX
section
variable {P : Program} {w : World} {K : PySem.W.Frag} {mg : Str → Option Value} {base : Heap} {T : List NdefX.NTab}
/-- not the name w -/
def NoW (b : Pl) : Prop := ∀ q ∈ b, q.2 ≠ .name [119]
/-- what the plans' makers are handed: the tape, the letters, the words -/
structure Hand (K : PySem.W.Frag) (H : Hp) (t sc wl : Addr) : Prop where
  tape : TapeOk H t sc
  words : SqL K H wl [.str (S [120]), .str (S [121])]
  ne : wl ≠ t
theorem gr_sqlT {t : Addr} {H H' : Hp} (g : Gr T (some t) H H') {a : Addr} {xs : List V} (hne : a ≠ t) (h : SqL K H a xs) : SqL K H' a xs := by
  have n1 : some t ≠ some a := fun z => hne (Option.some.inj z).symm
  rcases h with (h | ⟨o, h⟩) | h
  · exact .inl (.inl (g.keep _ _ h n1 fun _ z => by cases z))
  · exact .inl (.inr ⟨o, g.keep _ _ h n1 fun _ z => by cases z⟩)
  · exact .inr h
theorem Hand.step {H H' : Hp} {t sc wl : Addr} (h : Hand K H t sc wl) (g : Gr T (some t) H H') (ht : TapeOk H' t sc) : Hand K H' t sc wl := ⟨ht, gr_sqlT g h.ne h.words, h.ne⟩
def spLawPlan (T : List NdefX.NTab) (K : PySem.W.Frag) (B : Nat) : Sp := fun vs H Q _ => ∃ (t sc wl : Addr) (l n : Nat), vs = [.ref t, .int (l : Int), .int (n : Int), .str "ab", .ref wl] ∧ Hand K H t sc wl ∧ l < B ∧ n + l ≤ 100 ∧
  ∀ (b : Pl) (u : V) (H' : Hp), Gr T (some t) H H' → TapeOk H' t sc → PlanV K H' u b → GoodL n b → szL b ≤ l → NoW b → Q u H'
def spLawPart (T : List NdefX.NTab) (K : PySem.W.Frag) (B : Nat) : Sp := fun vs H Q _ => ∃ (t sc wl : Addr) (l n : Nat), vs = [.ref t, .int (l : Int), .int (n : Int), .str "ab", .ref wl] ∧ Hand K H t sc wl ∧ 1 ≤ l ∧ l ≤ B ∧ n + l ≤ 100 ∧
  ∀ (p : Pt) (u : V) (H' : Hp), Gr T (some t) H H' → TapeOk H' t sc → PartV K H' u p → Good n p → sz p ≤ l → p ≠ .name [119] → Q u H'
theorem scLawPart : FnScope ["_law_tape_here", "_law_left", "_law_depth", "_law_letters", "_law_words", "_law_kind", "_law_door"] ["_law_tape_here", "_law_left", "_law_depth", "_law_letters", "_law_words"] (C8.fnScope sLawPart) := C8.fnScope_by (by decide +kernel)
theorem scLawPlan : FnScope ["_law_tape_here", "_law_left", "_law_depth", "_law_letters", "_law_words", "_law_items", "_law_turn", "_law_count", "_law_part_here"] ["_law_tape_here", "_law_left", "_law_depth", "_law_letters", "_law_words"] (C8.fnScope sLawPlan) := C8.fnScope_by (by decide +kernel)
theorem lab_ab {i : Nat} (h : i < 2) : ∃ c, (("ab" : String) : Str).cps.toList[i]? = some c ∧ okLab [c] := by
  have e : (("ab" : String) : Str).cps.toList = [97, 98] := by decide +kernel
  rw [e]
  rcases (by omega : i = 0 ∨ i = 1) with rfl | rfl
  · exact ⟨97, rfl, 97, rfl, by omega, by omega⟩
  · exact ⟨98, rfl, 98, rfl, by omega, by omega⟩
theorem lab_xy {i : Nat} (h : i < 2) : ∃ c, ([V.str (S [120]), V.str (S [121])] : List V)[i]? = some (.str (S [c])) ∧ okLab [c] ∧ c ≠ 119 := by
  rcases (by omega : i = 0 ∨ i = 1) with rfl | rfl
  · exact ⟨120, rfl, ⟨120, rfl, by omega, by omega⟩, by omega⟩
  · exact ⟨121, rfl, ⟨121, rfl, by omega, by omega⟩, by omega⟩
theorem ok_law_part (Df : DefN K mg "_law_part" sLawPart ["_law_tape_here", "_law_left", "_law_depth", "_law_letters", "_law_words"]) (X : Txt mg) {B L : Nat} (hL : 1 ≤ L) (cK : C8.Cal P w K mg base 1 "_law_pick" (spPick T K) []) (cP : C8.Cal P w K mg base L "_law_plan" (spLawPlan T K B) []) :
    C8.Cal P w K mg base (L + 1) "_law_part" (spLawPart T K B) [] := by
  refine mkCal Df scLawPart (fun vs H Q E h => ?_) (fun f cdv A outer s H vs Q E hr h => ?_)
  · obtain ⟨t, sc, wl, l, n, rfl, _⟩ := h; rfl
  obtain ⟨t, sc, wl, l, n, rfl, hH, hl1, hl2, hnl, q⟩ := h
  refine ⟨_, pss_cons (ps_set (i := 5) scLawPart.nd rfl (.inl rfl) (C8.pe_c cK hr hL (by rfl) (pa_cons (pv 0) (pa_cons pe_int pa_nil))))
    (pss_cons (ps_if (PW.pt (pw_and (pt_cmpR op_lt (pv 1) pe_int (nomark _)) (pw_and1 (pt_cmpR op_gt (pv 5) pe_int (nomark _)))))
      (pss_one (ps_set (i := 5) scLawPart.nd rfl (.inl rfl) (C8.pe_c cK hr hL (by rfl) (pa_cons (pv 0) (pa_cons pe_int pa_nil))))) pss_nil)
    (pss_cons (ps_set (i := 6) scLawPart.nd rfl (.inl rfl) (pe_ix ix_str (pv 3) (C8.pe_c cK hr hL (by rfl) (pa_cons (pv 0) (pa_cons (pe_callB call_len_str (by rfl) X.len PySem.boot_len (pa_cons (pv 3) pa_nil)) pa_nil))) (fun _ _ => rfl)))
    (pss_cons (ps_if (PW.pt (pw_and (pt_cmpR op_eq (pv 5) pe_int (nomark _)) (pw_and1 (pt_cmpR op_gt (pe_callB call_len_seq (by rfl) X.len PySem.boot_len (pa_cons (pv 4) pa_nil)) pe_int (nomark _)))))
      (pss_one (ps_ret (pe_tup (pa_cons pe_str (pa_cons (pe_ix ix_list (pv 4) (C8.pe_c cK hr hL (by rfl) (pa_cons (pv 0) (pa_cons (pe_callB call_len_seq (by rfl) X.len PySem.boot_len (pa_cons (pv 4) pa_nil)) pa_nil))) (fun _ _ => rfl)) pa_nil))))) pss_nil)
    (pss_cons (ps_if (PW.pt (pw_and (pt_cmpR op_lt (pv 5) pe_int (nomark _)) (pw_and1 (pt_cmpR op_gt (pv 2) pe_int (nomark _)))))
      (pss_one (ps_ret (pe_tup (pa_cons pe_str (pa_cons (pe_ix ix_list (pe_lst (pa_cons pe_int (pa_cons pe_int (pa_cons (C8.pe_c cK hr hL (by rfl) (pa_cons (pv 0) (pa_cons (pv 2) pa_nil))) pa_nil)))) (C8.pe_c cK hr hL (by rfl) (pa_cons (pv 0) (pa_cons pe_int pa_nil))) (fun _ _ => rfl)) pa_nil))))) pss_nil)
    (pss_cons (ps_if (PW.pt (pw_or (pt_cmpR op_eq (pv 5) pe_int (nomark _)) (pw_or1 (pt_cmpR op_eq (pv 5) pe_int (nomark _)))))
      (pss_one (ps_ret (pe_tup (pa_cons pe_str (pa_cons (pv 6) (pa_cons (C8.pe_c cP hr (Nat.le_refl _) (by rfl) (pa_cons (pv 0) (pa_cons (pe_op op_sub (pv 1) pe_int) (pa_cons (pv 2) (pa_cons (pv 3) (pa_cons (pv 4) pa_nil)))))) pa_nil)))))) pss_nil)
    (pss_one (ps_ret (pe_tup (pa_cons pe_str (pa_cons (pv 6) (pa_cons (C8.pe_c cP hr (Nat.le_refl _) (by rfl) (pa_cons (pv 0) (pa_cons (pe_op op_sub (pv 1) pe_int) (pa_cons (pe_op op_add (pv 2) pe_int) (pa_cons (pv 3) (pa_cons (pv 4) pa_nil)))))) pa_nil))))))))))), ?_⟩
  refine ⟨.ref t, rfl, t, sc, 6, rfl, hH.tape, by omega, by omega, fun k1 H1 g1 ht1 hk1 => ?_⟩
  have hlt : V.bl (decide ((l : Int) < 2)) = V.bl (decide (l < 2)) := congrArg V.bl (decide_eq_decide.mpr ⟨fun z => by omega, fun z => by omega⟩)
  have hgt : V.bl (decide ((3 : Int) < (k1 : Int))) = V.bl (decide (3 < k1)) := congrArg V.bl (decide_eq_decide.mpr ⟨fun z => by omega, fun z => by omega⟩)
  refine ⟨.int (l : Int), rfl, (l : Int), 2, rfl, rfl, decide (l < 2), hlt, ?_⟩
  have h3 : (l < 2 ∧ 3 < k1) ∨ (l < 2 ∧ ¬ 3 < k1) ∨ ¬ l < 2 := by omega
  rcases h3 with ⟨hl, hk⟩ | ⟨hl, hk⟩ | hl
  case' inl =>
    rw [decide_eq_true hl]
    refine iteT ⟨.int (k1 : Int), rfl, (k1 : Int), 3, rfl, rfl, decide (3 < k1), hgt, ?_⟩
    rw [decide_eq_true hk]
    refine iteT ⟨.ref t, rfl, t, sc, 4, rfl, ht1, by omega, by omega, fun k H2 g2 ht2 hk2 => ?_⟩
    have gA := g1.trans g2
    have hk6 : k < 6 := by omega
    have htA := ht2
  case' inr.inl =>
    rw [decide_eq_true hl]
    refine iteT ⟨.int (k1 : Int), rfl, (k1 : Int), 3, rfl, rfl, decide (3 < k1), hgt, ?_⟩
    rw [decide_eq_false hk]
    refine iteF ?_
    have gA := g1
    have hk6 := hk1
    have htA := ht1
    generalize k1 = k at hk6 ⊢
    generalize H1 = H2 at gA htA ⊢
  case' inr.inr =>
    rw [decide_eq_false hl]
    refine iteF (iteF ?_)
    have gA := g1
    have hk6 := hk1
    have htA := ht1
    generalize k1 = k at hk6 ⊢
    generalize H1 = H2 at gA htA ⊢
  all_goals
    have hA := hH.step gA htA
    have e2 : (("ab" : String) : Str).length = 2 := by decide +kernel
    refine ⟨.str "ab", rfl, .ref t, rfl, .str "ab", rfl, "ab", rfl, by rw [e2]; decide, t, sc, (("ab" : String) : Str).length, rfl, htA, by rw [e2]; omega, by rw [e2]; omega, fun i H3 g3 ht3 hi => ?_⟩
    rw [e2] at hi
    obtain ⟨cd, hcd, hlab⟩ := lab_ab hi
    refine ⟨"ab", (i : Int), cd, rfl, rfl, by rw [e2]; decide, atI_nat hcd, ?_⟩
    have gB := gA.trans g3
    have hB := hA.step g3 ht3
    refine ⟨.int (k : Int), rfl, rfl, decide (k = 0), congrArg V.bl (decide_eq_decide.mpr ⟨fun z => by have := V.int.inj z; omega, fun z => by rw [z]; rfl⟩), ?_⟩
    by_cases hk0 : k = 0
    · rw [decide_eq_true hk0]
      refine iteT ⟨.ref wl, rfl, wl, _, rfl, .inl hB.words, _, 0, rfl, rfl, true, rfl, iteT ?_⟩
      refine ⟨.ref wl, rfl, .ref t, rfl, .ref wl, rfl, wl, _, rfl, .inl hB.words, t, sc, 2, rfl, hB.tape, by omega, by omega, fun j H4 g4 ht4 hj => ?_⟩
      have hC := hB.step g4 ht4
      obtain ⟨c, hc, hcl, hcw⟩ := lab_xy hj
      refine ⟨wl, _, (j : Int), .str (S [c]), rfl, rfl, hC.words, atI_nat hc, by show 2 ≤ sizeLine; decide, fun tp ntp => ?_⟩
      have gx := gr_new (T := T) (t := some t) ntp (o := .tup [.str "name", .str (S [c])])
      refine q (.name [c]) _ _ ((gB.trans g4).trans gx) (ht4.gr (gr_new (T := T) ntp)) (PartV.name_mk (SqT.of upd_same)) ((good_name _ _).mpr hcl) (by rw [sz]; exact hl1) fun z => ?_
      cases z
      exact hcw rfl
    · rw [decide_eq_false hk0]
      refine iteF (iteF ⟨.int (k : Int), rfl, (k : Int), 2, rfl, rfl, decide (k < 2), congrArg V.bl (decide_eq_decide.mpr ⟨fun z => by omega, fun z => by omega⟩), ?_⟩)
      by_cases hgot : k < 2 ∧ 0 < n
      · obtain ⟨hk2', hn⟩ := hgot
        rw [decide_eq_true hk2']
        refine iteT ⟨.int (n : Int), rfl, (n : Int), 0, rfl, rfl, true, congrArg V.bl (decide_eq_true (by omega)), iteT ?_⟩
        refine ⟨.ref t, rfl, .int (n : Int), rfl, t, sc, n, rfl, hB.tape, by omega, by omega, fun j H4 g4 ht4 hj => ⟨by show 3 ≤ sizeLine; decide, fun tl ntl => ?_⟩⟩
        have ht5 : TapeOk (upd H4 tl (.lst [.int 0, .int 0, .int (j : Int)])) t sc := ht4.gr (gr_new (T := T) (t := none) ntl)
        have g5 := gr_new (T := T) (t := some t) ntl (o := .lst [.int 0, .int 0, .int (j : Int)])
        have htl : tl ≠ t := fun z => by
          obtain ⟨l0, e0⟩ := ht4.isl t rfl
          rw [z, e0] at ntl
          cases ntl
        refine ⟨.ref t, rfl, t, sc, 3, rfl, ht5, by omega, by omega, fun i2 H6 g6 ht6 hi2 => ?_⟩
        have hl6 : SqL K H6 tl [.int 0, .int 0, .int (j : Int)] := gr_sqlT g6 htl (SqL.of upd_same)
        obtain ⟨d, hd, hdn⟩ : ∃ d : Nat, ([V.int 0, V.int 0, V.int (j : Int)] : List V)[i2]? = some (V.int (d : Int)) ∧ d < n := by
          rcases (by omega : i2 = 0 ∨ i2 = 1 ∨ i2 = 2) with rfl | rfl | rfl
          · exact ⟨0, rfl, hn⟩
          · exact ⟨0, rfl, hn⟩
          · exact ⟨j, rfl, hj⟩
        refine ⟨tl, _, (i2 : Int), .int (d : Int), rfl, rfl, hl6, atI_nat hd, by show 2 ≤ sizeLine; decide, fun tp ntp => ?_⟩
        have gx := gr_new (T := T) (t := some t) ntp (o := .tup [.str "got", .int (d : Int)])
        exact q (.got d) _ _ ((((gB.trans g4).trans g5).trans g6).trans gx) (ht6.gr (gr_new (T := T) ntp)) (PartV.got_mk (SqT.of upd_same)) ((good_got _ _).mpr hdn) (by rw [sz]; exact hl1) fun z => by cases z
      · have h4 : (k < 2 ∧ ¬ 0 < n) ∨ ¬ k < 2 := by omega
        rcases h4 with ⟨hk2', hn⟩ | hk2'
        case' inl =>
          rw [decide_eq_true hk2']
          refine iteT ⟨.int (n : Int), rfl, (n : Int), 0, rfl, rfl, false, congrArg V.bl (decide_eq_false (by omega)), iteF ?_⟩
        case' inr =>
          rw [decide_eq_false hk2']
          refine iteF (iteF ?_)
        all_goals
          have ez : (l : Int) - 1 = ((l - 1 : Nat) : Int) := by omega
          have ez2 : (n : Int) + 1 = ((n + 1 : Nat) : Int) := by push_cast; rfl
          have hd2 : V.bl (decide (V.int (k : Int) = V.int 2)) = V.bl (decide (k = 2)) := congrArg V.bl (decide_eq_decide.mpr ⟨fun z => by have := V.int.inj z; omega, fun z => by rw [z]; rfl⟩)
          have hd4 : V.bl (decide (V.int (k : Int) = V.int 4)) = V.bl (decide (k = 4)) := congrArg V.bl (decide_eq_decide.mpr ⟨fun z => by have := V.int.inj z; omega, fun z => by rw [z]; rfl⟩)
          refine ⟨.int (k : Int), rfl, rfl, decide (k = 2), hd2, ?_⟩
          by_cases z1 : k = 2
          · rw [decide_eq_true z1]
            refine iteT (iteT ?_)
            refine ⟨.str (S [cd]), rfl, .ref t, rfl, .int (l : Int), rfl, (l : Int), 1, rfl, rfl, .int (n : Int), rfl, .str "ab", rfl, .ref wl, rfl, t, sc, wl, l - 1, n, by rw [← ez]; rfl, hB, by omega, by omega, fun b u H4 g4 ht4 hu hgb hsb _ => ⟨by show 3 ≤ sizeLine; decide, fun tp ntp => ?_⟩⟩
            have gx := gr_new (T := T) (t := some t) ntp (o := .tup [.str "letter", .str (S [cd]), u])
            have gy := gr_new (T := T) (t := none) ntp (o := .tup [.str "letter", .str (S [cd]), u])
            exact q (.box false [cd] b) _ _ ((gB.trans g4).trans gx) (ht4.gr gy) (PartV.box_mk (w := false) (SqT.of upd_same) (gy.tp hu)) ((good_box _ _ _ _).mpr ⟨hlab, hgb⟩) (by rw [sz_box]; omega) fun z => by cases z
          · rw [decide_eq_false z1]
            refine iteF ⟨.int (k : Int), rfl, rfl, decide (k = 4), hd4, ?_⟩
            by_cases z2 : k = 4
            · rw [decide_eq_true z2]
              refine iteT ?_
              refine ⟨.str (S [cd]), rfl, .ref t, rfl, .int (l : Int), rfl, (l : Int), 1, rfl, rfl, .int (n : Int), rfl, .str "ab", rfl, .ref wl, rfl, t, sc, wl, l - 1, n, by rw [← ez]; rfl, hB, by omega, by omega, fun b u H4 g4 ht4 hu hgb hsb _ => ⟨by show 3 ≤ sizeLine; decide, fun tp ntp => ?_⟩⟩
              have gx := gr_new (T := T) (t := some t) ntp (o := .tup [.str "letter", .str (S [cd]), u])
              have gy := gr_new (T := T) (t := none) ntp (o := .tup [.str "letter", .str (S [cd]), u])
              exact q (.box false [cd] b) _ _ ((gB.trans g4).trans gx) (ht4.gr gy) (PartV.box_mk (w := false) (SqT.of upd_same) (gy.tp hu)) ((good_box _ _ _ _).mpr ⟨hlab, hgb⟩) (by rw [sz_box]; omega) fun z => by cases z
            · rw [decide_eq_false z2]
              refine iteF ⟨.str (S [cd]), rfl, .ref t, rfl, .int (l : Int), rfl, (l : Int), 1, rfl, rfl, .int (n : Int), rfl, (n : Int), 1, rfl, rfl, .str "ab", rfl, .ref wl, rfl, t, sc, wl, l - 1, n + 1, by rw [← ez, ← ez2]; rfl, hB, by omega, by omega, fun b u H4 g4 ht4 hu hgb hsb _ => ⟨by show 3 ≤ sizeLine; decide, fun tp ntp => ?_⟩⟩
              have gx := gr_new (T := T) (t := some t) ntp (o := .tup [.str "wait", .str (S [cd]), u])
              have gy := gr_new (T := T) (t := none) ntp (o := .tup [.str "wait", .str (S [cd]), u])
              exact q (.box true [cd] b) _ _ ((gB.trans g4).trans gx) (ht4.gr gy) (PartV.box_mk (w := true) (SqT.of upd_same) (gy.tp hu)) ((good_box _ _ _ _).mpr ⟨hlab, hgb⟩) (by rw [sz_box]; omega) fun z => by cases z
/-- an item joins a row of ours -/
theorem push_itemT {tt : Option Addr} {H H6 : Hp} {Da : Addr} {zs : List V} {l : Pl} {v : V} {q : Nat × Pt} (nDa : H Da = none) (g : Gr T tt H H6) (e6 : H6 Da = some (.lst zs)) (hz : ItemsV K H6 zs l) (it : ItemV K H6 v q) :
    Gr T tt H (upd H6 Da (.lst (zs ++ [v]))) ∧ ItemsV K (upd H6 Da (.lst (zs ++ [v]))) (zs ++ [v]) (l ++ [q]) := by
  have keep : ∀ a ys, SqT K H6 a ys → SqT K (upd H6 Da (.lst (zs ++ [v]))) a ys := fun a ys z => sqt_upd e6 z
  exact ⟨g.mut nDa e6 (fun _ z => by cases z) (fun _ _ z => by cases z), ItemsV.snoc (TpAll.ext keep _ _ hz) (Tp.ext keep _ _ it)⟩
end
end G6
set_option autoImplicit false
set_option Elab.async false
set_option linter.all false
set_option maxRecDepth 100000
set_option maxHeartbeats 4000000
/-! The law's plans: the rows. -/
namespace G6
open PySem PySem.Spec PyProof.Rows L2 NdefX LamX
section
variable {P : Program} {w : World} {K : PySem.W.Frag} {mg : Str → Option Value} {base : Heap} {T : List NdefX.NTab}
theorem gr_lstT {t : Addr} {H H' : Hp} (g : Gr T (some t) H H') {a : Addr} {xs : List V} (hne : a ≠ t) (h : H a = some (.lst xs)) : H' a = some (.lst xs) := g.keep _ _ h (fun z => hne (Option.some.inj z).symm) fun _ z => by cases z
theorem count_at {i l : Nat} (h : i < 5) (hl : 1 ≤ l) : ∃ c0 : Nat, ([V.int 1, V.int 1, V.int 1, V.int 2, V.int 3] : List V)[i]? = some (.int (c0 : Int)) ∧ 1 ≤ c0 := by
  rcases (by omega : i = 0 ∨ i = 1 ∨ i = 2 ∨ i = 3 ∨ i = 4) with rfl | rfl | rfl | rfl | rfl
  · exact ⟨1, rfl, by omega⟩
  · exact ⟨1, rfl, by omega⟩
  · exact ⟨1, rfl, by omega⟩
  · exact ⟨2, rfl, by omega⟩
  · exact ⟨3, rfl, by omega⟩
theorem ok_law_plan1 (Df : DefN K mg "_law_plan" sLawPlan ["_law_tape_here", "_law_left", "_law_depth", "_law_letters", "_law_words"]) (X : Txt mg) {B D0 L : Nat} (hB : B ≤ 6) (hL : 2 * D0 + 3 ≤ L) (hD : B ≤ D0) (cK : C8.Cal P w K mg base 1 "_law_pick" (spPick T K) [])
    (cS : C8.Cal P w K mg base (2 * D0 + 3) "_law_part_size" (spPartSize T K D0) []) (cP : C8.Cal P w K mg base (L + 1) "_law_part" (spLawPart T K B) []) :
    C8.Cal P w K mg base (L + 2) "_law_plan" (spLawPlan T K (B + 1)) [] := by
  refine mkCal Df scLawPlan (fun vs H Q E h => ?_) (fun f cdv A outer s H vs Q E hr h => ?_)
  · obtain ⟨t, sc, wl, l, n, rfl, _⟩ := h; rfl
  obtain ⟨t, sc, wl, l, n, rfl, hH, hl, hnl, q⟩ := h
  refine ⟨_, pss_cons (ps_set (i := 5) scLawPlan.nd rfl (.inl rfl) (pe_lst pa_nil))
    (pss_cons (ps_for PassesOwn.never rfl (pi_range1 (by rfl) X.range (pa_cons pe_int pa_nil)) (pg_name (i := 6) scLawPlan.nd rfl (Or.inl rfl))
      (pss_cons (ps_if (PW.pt (pw_or (pt_cmpR op_lt (pv 1) pe_int (nomark _)) (pw_or1 (pt_cmpR op_eq (C8.pe_c cK hr (by omega) (by rfl) (pa_cons (pv 0) (pa_cons pe_int pa_nil))) pe_int (nomark _))))) (pss_one ps_break) pss_nil)
      (pss_cons (ps_set (i := 7) scLawPlan.nd rfl (.inl rfl) (pe_ix ix_list (pe_lst (pa_cons pe_int (pa_cons pe_int (pa_cons pe_int (pa_cons pe_int (pa_cons pe_int pa_nil)))))) (C8.pe_c cK hr (by omega) (by rfl) (pa_cons (pv 0) (pa_cons pe_int pa_nil))) (fun _ _ => rfl)))
      (pss_cons (ps_if (pt_cmpR op_gt (pv 7) (pv 1) (nomark _)) (pss_one (ps_set (i := 7) scLawPlan.nd rfl (.inl rfl) pe_int)) pss_nil)
      (pss_cons (ps_set (i := 8) scLawPlan.nd rfl (.inl rfl) (C8.pe_c cP hr (Nat.le_refl _) (by rfl) (pa_cons (pv 0) (pa_cons (pe_op op_fdiv (pv 1) (pv 7)) (pa_cons (pv 2) (pa_cons (pv 3) (pa_cons (pv 4) pa_nil)))))))
      (pss_cons (ps_expr (pe_bm PySem.F.plainAttrs_list PySem.F.slot_list_append PySem.F.type_list_append mt_append (pv 5) (pa_cons (pe_tup (pa_cons (pv 7) (pa_cons (pv 8) pa_nil))) pa_nil)))
      (pss_one (ps_set (i := 1) scLawPlan.nd rfl (.inl rfl) (pe_op op_sub (pv 1) (pe_op op_mul (pv 7) (C8.pe_c cS hr (by omega) (by rfl) (pa_cons (pv 8) pa_nil))))))))))))
    (pss_one (ps_ret (pe_tupleOf (by rfl) X.tuple (pv 5))))), ?_⟩
  obtain ⟨Da, hDa⟩ : ∃ x : Nat, x = x := ⟨0, rfl⟩
  clear hDa Da
  refine ⟨Nat.zero_le _, fun Da nDa => ⟨6, rfl, by decide, by decide, for_it (n := (6 : Int).toNat) walk_range (fun i σ H3 => ∃ (lf : Nat) (y6 y7 y8 : Option V) (zs : List V) (b : Pl), σ = [some (.ref t), some (.int (lf : Int)), some (.int (n : Int)), some (.str "ab"), some (.ref wl), some (.ref Da), y6, y7, y8] ∧ Gr T (some t) H H3 ∧ TapeOk H3 t sc ∧
      H3 Da = some (.lst zs) ∧ ItemsV K H3 zs b ∧ GoodL n b ∧ szL b + lf ≤ l ∧ NoW b ∧ b.length ≤ i)
    ⟨l, none, none, none, [], [], rfl, gr_new nDa, hH.tape.gr (gr_new (T := T) nDa), upd_same, .nil, by rw [GoodL]; trivial, by rw [szL_nil]; omega, fun _ h => absurd h List.not_mem_nil, Nat.le_refl _⟩ (fun _ _ _ _ _ => True.intro) (fun i x σ H3 H4 hi hP hY => ?_) (fun σ H3 hP => ?_)⟩⟩
  · obtain ⟨lf, y6, y7, y8, zs, b, rfl, g, ht, eD, hz, hgb, hsb, hnw, hbl⟩ := hP
    obtain ⟨rfl, rfl⟩ := hY
    have hi6 : i < 6 := hi
    obtain ⟨hDt, hDs⟩ := hH.tape.apart nDa
    have hlf : V.bl (decide ((lf : Int) < 1)) = V.bl (decide (lf < 1)) := congrArg V.bl (decide_eq_decide.mpr ⟨fun z => by omega, fun z => by omega⟩)
    refine ⟨.int (lf : Int), rfl, (lf : Int), 1, rfl, rfl, decide (lf < 1), hlf, ?_⟩
    by_cases h0 : lf < 1
    · rw [decide_eq_true h0]
      refine iteT (iteT ?_)
      refine ⟨.ref Da, rfl, .inl ⟨Da, zs, rfl, SqL.of eD, fun pt npt => ?_⟩⟩
      have gx := gr_new (T := T) (t := some t) npt (o := .tup zs)
      have gy := gr_new (T := T) (t := none) npt (o := .tup zs)
      exact q b _ _ (Gr.trans g gx) (TapeOk.gr ht gy) (PlanV.mk (SqT.of upd_same) (gy.tpAll hz)) hgb (by omega) hnw
    · rw [decide_eq_false h0]
      refine iteF ⟨.ref t, rfl, t, sc, 5, rfl, ht, by omega, by omega, fun k H5 g5 ht5 hk => ⟨rfl, decide (k = 0), congrArg V.bl (decide_eq_decide.mpr ⟨fun z => by have := V.int.inj z; omega, fun z => by rw [z]; rfl⟩), ?_⟩⟩
      have gA := g.trans g5
      have eD5 := gr_lstT g5 hDt eD
      have hz5 := g5.tpAllT ht.isl hz
      by_cases hk0 : k = 0
      · rw [decide_eq_true hk0]
        refine iteT ?_
        refine ⟨.ref Da, rfl, .inl ⟨Da, zs, rfl, SqL.of eD5, fun pt npt => ?_⟩⟩
        have gx := gr_new (T := T) (t := some t) npt (o := .tup zs)
        have gy := gr_new (T := T) (t := none) npt (o := .tup zs)
        exact q b _ _ (Gr.trans gA gx) (TapeOk.gr ht5 gy) (PlanV.mk (SqT.of upd_same) (gy.tpAll hz5)) hgb (by omega) hnw
      · rw [decide_eq_false hk0]
        refine iteF ⟨by show 5 ≤ sizeLine; decide, fun tl ntl => ?_⟩
        have gl := gr_new (T := T) (t := none) ntl (o := .lst [.int 1, .int 1, .int 1, .int 2, .int 3])
        have ht6 := ht5.gr gl
        have htl : tl ≠ t := fun z => by
          obtain ⟨l0, e0⟩ := ht5.isl t rfl
          rw [z, e0] at ntl
          cases ntl
        refine ⟨.ref t, rfl, t, sc, 5, rfl, ht6, by omega, by omega, fun k2 H7 g7 ht7 hk2 => ?_⟩
        obtain ⟨c0, hc0, hc1⟩ := count_at hk2 (show 1 ≤ lf by omega)
        refine ⟨tl, _, (k2 : Int), .int (c0 : Int), rfl, rfl, gr_sqlT g7 htl (SqL.of upd_same), atI_nat hc0, ?_⟩
        have g57 := (gl.weak (t := some t)).trans g7
        have gB := gA.trans g57
        have eD7 := gr_lstT g7 hDt (gl.lst eD5)
        have hz7 := g7.tpAllT ht6.isl (gl.tpAll hz5)
        refine ⟨.int (c0 : Int), rfl, .int (lf : Int), rfl, (c0 : Int), (lf : Int), rfl, rfl, decide (lf < c0), congrArg V.bl (decide_eq_decide.mpr ⟨fun z => by omega, fun z => by omega⟩), ?_⟩
        have hcm : lf < c0 ∨ ¬ lf < c0 := by omega
        rcases hcm with hcm | hcm
        case' inl =>
          rw [decide_eq_true hcm]
          refine iteT ?_
          obtain ⟨c1, hc11, hc12, hc13⟩ : ∃ c1 : Nat, V.int 1 = V.int (c1 : Int) ∧ 1 ≤ c1 ∧ c1 ≤ lf := ⟨1, rfl, by omega, by omega⟩
        case' inr =>
          rw [decide_eq_false hcm]
          refine iteF ?_
          obtain ⟨c1, hc11, hc12, hc13⟩ : ∃ c1 : Nat, V.int (c0 : Int) = V.int (c1 : Int) ∧ 1 ≤ c1 ∧ c1 ≤ lf := ⟨c0, rfl, hc1, by omega⟩
        all_goals
          have hdv1 : 1 ≤ lf / c1 := (Nat.le_div_iff_mul_le (by omega)).mpr (by omega)
          have hdv2 : lf / c1 ≤ lf := Nat.div_le_self _ _
          have ez : (lf : Int) / (c1 : Int) = ((lf / c1 : Nat) : Int) := by push_cast; rfl
          have hHB : Hand K H7 t sc wl := hH.step gB ht7
          have hci : c1 ≤ 6 := by omega
          refine ⟨.ref t, rfl, .int (lf : Int), rfl, .int (c1 : Int), by rw [← hc11]; rfl, (lf : Int), (c1 : Int), rfl, rfl, ⟨by omega, by omega⟩, .int (n : Int), rfl, .str "ab", rfl, .ref wl, rfl, t, sc, wl, lf / c1, n, by rw [← ez]; rfl, hHB, hdv1, by omega, by omega, fun p u H8 g8 ht8 hu hgp hsp hnm => ?_⟩
          have eD8 := gr_lstT g8 hDt eD7
          have hz8 := g8.tpAllT ht7.isl hz7
          have gC := gB.trans g8
          refine ⟨.ref Da, rfl, .inl ⟨rfl, zs, SqL.of eD8⟩, .int (c1 : Int), by rw [← hc11]; rfl, u, rfl, by show 2 ≤ sizeLine; decide, fun tp ntp => ?_⟩
          have gx := gr_new (T := T) (t := some t) ntp (o := .tup [.int (c1 : Int), u])
          have gy := gr_new (T := T) (t := none) ntp (o := .tup [.int (c1 : Int), u])
          have e9 := gy.lst eD8
          obtain ⟨gE, zE⟩ := push_itemT nDa (gC.trans gx) e9 (gy.tpAll hz8) (ItemV.mk (c := c1) (SqT.of upd_same) (gy.tp hu))
          have hzl : zs.length < sizeLine := by
            have h1 := hz.len
            show _ < 2 ^ 24
            omega
          refine ⟨Da, zs, .ref tp, rfl, rfl, e9, hzl, ?_⟩
          have htE := (ht8.gr gy).other (o := .lst (zs ++ [.ref tp])) hDt hDs
          have huE : PartV K (upd (upd H8 tp (.tup [.int (c1 : Int), u])) Da (.lst (zs ++ [.ref tp]))) u p := Tp.ext (fun a ys z => sqt_upd e9 z) _ _ (gy.tp hu)
          have hndp := nd_sz p n hgp
          have hdnp := dp_nd p
          have hmul : c1 * sz p ≤ lf := by
            have h1 : c1 * sz p ≤ c1 * (lf / c1) := Nat.mul_le_mul_left _ hsp
            have h2 := Nat.mul_div_le lf c1
            omega
          refine ⟨.int (lf : Int), rfl, .int (c1 : Int), by rw [← hc11]; rfl, u, rfl, u, p, n, rfl, huE, ⟨hgp, by omega, by omega⟩, by omega, fun H10 g10 => ⟨(c1 : Int), (sz p : Int), rfl, rfl, .inl ⟨by omega, by omega⟩, (lf : Int), (c1 : Int) * (sz p : Int), rfl, rfl, ?_⟩⟩
          have ez2 : (lf : Int) - (c1 : Int) * (sz p : Int) = ((lf - c1 * sz p : Nat) : Int) := by
            rw [Int.ofNat_sub hmul]
            push_cast
            rfl
          refine ⟨lf - c1 * sz p, _, _, _, zs ++ [.ref tp], b ++ [(c1, p)], by rw [← ez2]; rfl, gE.trans g10.weak, htE.gr g10, g10.lst upd_same, g10.tpAll zE, ?_, ?_, ?_, ?_⟩
          · exact (goodL_iff _ _).mpr fun q0 hq0 => (List.mem_append.mp hq0).elim (fun z => (goodL_iff _ _).mp hgb q0 z) fun z => by
              rw [List.mem_singleton] at z
              rw [z]
              exact ⟨hc12, hgp⟩
          · rw [szL_append, szL_one]
            show szL b + c1 * sz p + (lf - c1 * sz p) ≤ l
            omega
          · intro q0 hq0
            rcases List.mem_append.mp hq0 with z | z
            · exact hnw q0 z
            · rw [List.mem_singleton] at z
              rw [z]
              exact hnm
          · rw [List.length_append, List.length_singleton]
            omega
  · obtain ⟨lf, y6, y7, y8, zs, b, rfl, g, ht, eD, hz, hgb, hsb, hnw, hbl⟩ := hP
    refine ⟨.ref Da, rfl, .inl ⟨Da, zs, rfl, SqL.of eD, fun pt npt => ?_⟩⟩
    have gx := gr_new (T := T) (t := some t) npt (o := .tup zs)
    have gy := gr_new (T := T) (t := none) npt (o := .tup zs)
    exact q b _ _ (g.trans gx) (ht.gr gy) (PlanV.mk (SqT.of upd_same) (gy.tpAll hz)) hgb (by omega) hnw
theorem ok_law_plan (D1 : DefN K mg "_law_plan" sLawPlan ["_law_tape_here", "_law_left", "_law_depth", "_law_letters", "_law_words"]) (D2 : DefN K mg "_law_part" sLawPart ["_law_tape_here", "_law_left", "_law_depth", "_law_letters", "_law_words"]) (X : Txt mg)
    (cK : C8.Cal P w K mg base 1 "_law_pick" (spPick T K) []) (cS : C8.Cal P w K mg base 15 "_law_part_size" (spPartSize T K 6) []) : ∀ B, B ≤ 7 → C8.Cal P w K mg base (15 + 2 * B) "_law_plan" (spLawPlan T K B) []
  | 0, _ => calFalse D1 fun vs H Q E h => by
      obtain ⟨t, sc, wl, l, n, _, _, hd, _⟩ := h
      omega
  | B + 1, hB => ok_law_plan1 (D0 := 6) (L := 15 + 2 * B) D1 X (by omega) (by omega) (by omega) cK cS (ok_law_part D2 X (by omega) cK (ok_law_plan D1 D2 X cK cS B (by omega)))
end
end G6

set_option autoImplicit false
set_option Elab.async false
set_option linter.all false
set_option maxRecDepth 100000
set_option maxHeartbeats 4000000
/-! The law's raise and key. -/
namespace G6
open PySem PySem.Spec PyProof.Rows L2 NdefX LamX
section
variable {P : Program} {w : World} {K : PySem.W.Frag} {mg : Str → Option Value} {base : Heap} {T : List NdefX.NTab}
def spLawRaise (T : List NdefX.NTab) (K : PySem.W.Frag) (D : Nat) : Sp := fun vs H Q _ => ∃ (v : V) (b : Pl) (c m : Nat), vs = [v, .int 1, .int (c : Int)] ∧ PlanV K H v b ∧ FitL m b ∧ dpL b < D ∧ ∀ (u : V) (H' : Hp), Gr T none H H' → PlanV K H' u (rzL c b) → Q u H'
theorem scLawRaise : FnScope ["_law_plan_here", "_law_by", "_law_least", "_law_found", "_law_count", "_law_part_here"] ["_law_plan_here", "_law_by", "_law_least"] (C8.fnScope sLawRaise) := C8.fnScope_by (by decide +kernel)
theorem ok_law_raise1 (Df : DefN K mg "_law_raise" sLawRaise ["_law_plan_here", "_law_by", "_law_least"]) (X : Txt mg) {n0 : Nat} (cR : C8.Cal P w K mg base (n0 + 1) "_law_raise" (spLawRaise T K n0) []) : C8.Cal P w K mg base (n0 + 2) "_law_raise" (spLawRaise T K (n0 + 1)) [] := by
  refine mkCal Df scLawRaise (fun vs H Q E h => ?_) (fun f cdv A outer s H vs Q E hr h => ?_)
  · obtain ⟨v, b, c, m, rfl, _⟩ := h; rfl
  obtain ⟨v, b, c, m, rfl, hv, hg, hd, q⟩ := h
  obtain ⟨a, xs, rfl, hS, hI⟩ := hv.inv
  refine ⟨_, pss_cons (ps_set (i := 3) scLawRaise.nd rfl (.inl rfl) (pe_lst pa_nil))
    (pss_cons (ps_for PassesOwn.never rfl (pi_tup (pv 0)) (pg_tup rfl (pgs_cons (pg_name (i := 4) scLawRaise.nd rfl (Or.inl rfl)) (pgs_cons (pg_name (i := 5) scLawRaise.nd rfl (Or.inl rfl)) pgs_nil)))
      (pss_cons (ps_if (PW.pt (pw_and (pt_cmpR op_eq (pe_ix ix_tup (pv 5) pe_int (fun _ _ => rfl)) pe_str (nomark _)) (pw_and1 (pt_cmpR op_ge (pe_ix ix_tup (pv 5) pe_int (fun _ _ => rfl)) (pv 2) (nomark _)))))
        (pss_one (ps_set (i := 5) scLawRaise.nd rfl (.inl rfl) (pe_tup (pa_cons pe_str (pa_cons (pe_op op_add (pe_ix ix_tup (pv 5) pe_int (fun _ _ => rfl)) (pv 1)) pa_nil))))) pss_nil)
      (pss_cons (ps_if (pt_cmpR op_eq (pe_ix ix_tup (pv 5) pe_int (fun _ _ => rfl)) pe_str (nomark _))
        (pss_one (ps_set (i := 5) scLawRaise.nd rfl (.inl rfl) (pe_tup (pa_cons pe_str (pa_cons (pe_ix ix_tup (pv 5) pe_int (fun _ _ => rfl)) (pa_cons (C8.pe_c cR hr (Nat.le_refl _) (by rfl) (pa_cons (pe_ix ix_tup (pv 5) pe_int (fun _ _ => rfl)) (pa_cons (pv 1) (pa_cons (pv 2) pa_nil)))) pa_nil)))))) pss_nil)
      (pss_cons (ps_if (pt_cmpR op_eq (pe_ix ix_tup (pv 5) pe_int (fun _ _ => rfl)) pe_str (nomark _))
        (pss_one (ps_set (i := 5) scLawRaise.nd rfl (.inl rfl) (pe_tup (pa_cons pe_str (pa_cons (pe_ix ix_tup (pv 5) pe_int (fun _ _ => rfl)) (pa_cons (C8.pe_c cR hr (Nat.le_refl _) (by rfl) (pa_cons (pe_ix ix_tup (pv 5) pe_int (fun _ _ => rfl)) (pa_cons (pv 1) (pa_cons (pe_op op_add (pv 2) pe_int) pa_nil)))) pa_nil)))))) pss_nil)
      (pss_one (ps_expr (pe_bm PySem.F.plainAttrs_list PySem.F.slot_list_append PySem.F.type_list_append mt_append (pv 3) (pa_cons (pe_tup (pa_cons (pv 4) (pa_cons (pv 5) pa_nil))) pa_nil))))))))
    (pss_one (ps_ret (pe_tupleOf (by rfl) X.tuple (pv 3))))), ?_⟩
  have hxl : xs.length = b.length := hI.len
  refine ⟨Nat.zero_le _, fun Da nDa => ⟨.ref a, rfl, a, rfl, ⟨xs, (gr_new (T := T) (t := none) nDa).sqt0 hS⟩, for_it walk_tup (fun i σ H3 => ∃ y1 y2 zs, σ = [some (.ref a), some (.int 1), some (.int (c : Int)), some (.ref Da), y1, y2] ∧ Gr T none H H3 ∧ H3 Da = some (.lst zs) ∧ ItemsV K H3 zs ((b.take i).map fun q => (q.1, rzP c q.2)))
    ⟨none, none, [], rfl, gr_new nDa, upd_same, .nil⟩ (fun i σ H3 _ ⟨_, _, _, _, g, _⟩ => g.sqt0 hS) (fun i x σ H3 H4 hi hP hY => ?_) (fun σ H3 hP => ?_)⟩⟩
  · obtain ⟨y1, y2, zs, rfl, g, eD, hz⟩ := hP
    obtain ⟨rfl, hx⟩ := hY
    have hib : i < b.length := by omega
    obtain ⟨x', hx', ht⟩ := hI.get (List.getElem?_eq_getElem hib)
    rw [hx] at hx'
    cases hx'
    have hmem := List.getElem_mem hib
    have hfp := hg.mem hmem
    have hdm := dp_mem hmem
    rw [take_snoc _ (List.getElem?_eq_getElem hib)]
    have hsz : zs.length < sizeLine := by
      have h1 := hz.len
      rw [List.length_map, List.length_take] at h1
      have := hg.len
      show _ < 2 ^ 24
      omega
    generalize b[i] = q0 at ht hfp hdm ⊢
    obtain ⟨c0, p⟩ := q0
    obtain ⟨ia, u, rfl, hS2, hu⟩ := ht.inv
    have hu' : PartV K H4 u p := g.tp hu
    refine ⟨ia, _, rfl, g.sqt0 hS2, rfl, _, _, rfl, _, _, rfl, rfl, ?_⟩
    cases p with
    | box wt d bb =>
      obtain ⟨pa, pu, rfl, hpS, hpb⟩ := hu'.box_inv
      have hbb := hfp.body.2
      rw [dp_box] at hdm
      cases wt with
      | false =>
        refine rd_ixEq (i := 5) (k := 0) rfl hpS rfl false (by decide) (iteF (iteF ?_))
        refine rd_ixEq (i := 5) (k := 0) rfl hpS rfl true (by decide) (iteT (rd_ix (i := 5) (k := 1) rfl hpS rfl (rd_ix (i := 5) (k := 2) rfl hpS rfl ⟨.int 1, rfl, .int (c : Int), rfl, pu, bb, c, m, rfl, hpb, hbb, by omega, fun r H5 g5 hr5 => ⟨by show 3 ≤ sizeLine; decide, fun t1 n1 => ?_⟩⟩)))
        have gx := gr_new (T := T) (t := none) n1 (o := .tup [.str "letter", .str (S d), r])
        have h2 : SqT K (upd H5 t1 (.tup [.str "letter", .str (S d), r])) t1 [.str "letter", .str (S d), r] := SqT.of upd_same
        refine rd_ixEq (i := 5) (k := 0) rfl h2 rfl false (by decide) (iteF ?_)
        refine ⟨.ref Da, rfl, .inl ⟨rfl, zs, SqL.of ((g5.trans gx).lst eD)⟩, .int (c0 : Int), rfl, .ref t1, rfl, by show 2 ≤ sizeLine; decide, fun t2 n2 => ?_⟩
        have gy := gr_new (T := T) (t := none) n2 (o := .tup [.int (c0 : Int), .ref t1])
        obtain ⟨e6, g7, z7⟩ := push_item nDa g eD hz ((g5.trans gx).trans gy) (ItemV.mk (c := c0) (SqT.of upd_same) (gy.tp (PartV.box_mk (w := false) (SqT.of upd_same) (gx.tp hr5))))
        exact ⟨Da, zs, _, rfl, rfl, e6, hsz, _, _, _, rfl, g7, upd_same, by rw [rzP_box]; exact z7⟩
      | true =>
        refine rd_ixEq (i := 5) (k := 0) rfl hpS rfl false (by decide) (iteF (iteF ?_))
        refine rd_ixEq (i := 5) (k := 0) rfl hpS rfl false (by decide) (iteF ?_)
        refine rd_ixEq (i := 5) (k := 0) rfl hpS rfl true (by decide) (iteT (rd_ix (i := 5) (k := 1) rfl hpS rfl (rd_ix (i := 5) (k := 2) rfl hpS rfl ⟨.int 1, rfl, .int (c : Int), rfl, (c : Int), 1, rfl, rfl, pu, bb, c + 1, m + 1, rfl, hpb, hbb, by omega, fun r H5 g5 hr5 => ⟨by show 3 ≤ sizeLine; decide, fun t1 n1 => ?_⟩⟩)))
        have gx := gr_new (T := T) (t := none) n1 (o := .tup [.str "wait", .str (S d), r])
        refine ⟨.ref Da, rfl, .inl ⟨rfl, zs, SqL.of ((g5.trans gx).lst eD)⟩, .int (c0 : Int), rfl, .ref t1, rfl, by show 2 ≤ sizeLine; decide, fun t2 n2 => ?_⟩
        have gy := gr_new (T := T) (t := none) n2 (o := .tup [.int (c0 : Int), .ref t1])
        obtain ⟨e6, g7, z7⟩ := push_item nDa g eD hz ((g5.trans gx).trans gy) (ItemV.mk (c := c0) (SqT.of upd_same) (gy.tp (PartV.box_mk (w := true) (SqT.of upd_same) (gx.tp hr5))))
        exact ⟨Da, zs, _, rfl, rfl, e6, hsz, _, _, _, rfl, g7, upd_same, by rw [rzP_box]; exact z7⟩
    | name x =>
      obtain ⟨pa, rfl, hpS⟩ := hu'.name_inv
      refine rd_ixEq (i := 5) (k := 0) rfl hpS rfl false (by decide) (iteF (iteF ?_))
      refine rd_ixEq (i := 5) (k := 0) rfl hpS rfl false (by decide) (iteF ?_)
      refine rd_ixEq (i := 5) (k := 0) rfl hpS rfl false (by decide) (iteF ?_)
      refine ⟨.ref Da, rfl, .inl ⟨rfl, zs, SqL.of eD⟩, .int (c0 : Int), rfl, .ref pa, rfl, by show 2 ≤ sizeLine; decide, fun t2 n2 => ?_⟩
      have gy := gr_new (T := T) (t := none) n2 (o := .tup [.int (c0 : Int), .ref pa])
      obtain ⟨e6, g7, z7⟩ := push_item nDa g eD hz gy (ItemV.mk (c := c0) (SqT.of upd_same) (gy.tp hu'))
      exact ⟨Da, zs, _, rfl, rfl, e6, hsz, _, _, _, rfl, g7, upd_same, by rw [rzP_name]; exact z7⟩
    | got d =>
      obtain ⟨pa, rfl, hpS⟩ := hu'.got_inv
      refine rd_ixEq (i := 5) (k := 0) rfl hpS rfl true (by decide) (iteT (rd_ix (i := 5) (k := 1) rfl hpS rfl ⟨.int (c : Int), rfl, (d : Int), (c : Int), rfl, rfl, decide (c ≤ d), congrArg V.bl (decide_eq_decide.mpr ⟨fun z => by omega, fun z => by omega⟩), ?_⟩))
      by_cases hcd : c ≤ d
      · rw [decide_eq_true hcd]
        refine iteT (rd_ix (i := 5) (k := 1) rfl hpS rfl ⟨.int 1, rfl, (d : Int), 1, rfl, rfl, by show 2 ≤ sizeLine; decide, fun t1 n1 => ?_⟩)
        have gx := gr_new (T := T) (t := none) n1 (o := .tup [.str "got", .int ((d : Int) + 1)])
        have h2 : SqT K (upd H4 t1 (.tup [.str "got", .int ((d : Int) + 1)])) t1 [.str "got", .int ((d : Int) + 1)] := SqT.of upd_same
        refine rd_ixEq (i := 5) (k := 0) rfl h2 rfl false (by decide) (iteF ?_)
        refine rd_ixEq (i := 5) (k := 0) rfl h2 rfl false (by decide) (iteF ?_)
        refine ⟨.ref Da, rfl, .inl ⟨rfl, zs, SqL.of (gx.lst eD)⟩, .int (c0 : Int), rfl, .ref t1, rfl, by show 2 ≤ sizeLine; decide, fun t2 n2 => ?_⟩
        have gy := gr_new (T := T) (t := none) n2 (o := .tup [.int (c0 : Int), .ref t1])
        have z2 : (((d + 1 : Nat)) : Int) = (d : Int) + 1 := by push_cast; rfl
        obtain ⟨e6, g7, z7⟩ := push_item nDa g eD hz (gx.trans gy) (ItemV.mk (c := c0) (SqT.of upd_same) (gy.tp (PartV.got_mk (d := d + 1) (by rw [z2]; exact h2))))
        exact ⟨Da, zs, _, rfl, rfl, e6, hsz, _, _, _, rfl, g7, upd_same, by rw [rzP_got, if_pos hcd]; exact z7⟩
      · rw [decide_eq_false hcd]
        refine iteF ?_
        refine rd_ixEq (i := 5) (k := 0) rfl hpS rfl false (by decide) (iteF ?_)
        refine rd_ixEq (i := 5) (k := 0) rfl hpS rfl false (by decide) (iteF ?_)
        refine ⟨.ref Da, rfl, .inl ⟨rfl, zs, SqL.of eD⟩, .int (c0 : Int), rfl, .ref pa, rfl, by show 2 ≤ sizeLine; decide, fun t2 n2 => ?_⟩
        have gy := gr_new (T := T) (t := none) n2 (o := .tup [.int (c0 : Int), .ref pa])
        obtain ⟨e6, g7, z7⟩ := push_item nDa g eD hz gy (ItemV.mk (c := c0) (SqT.of upd_same) (gy.tp hu'))
        exact ⟨Da, zs, _, rfl, rfl, e6, hsz, _, _, _, rfl, g7, upd_same, by rw [rzP_got, if_neg hcd]; exact z7⟩
  · obtain ⟨y1, y2, zs, rfl, g, eD, hz⟩ := hP
    rw [List.take_of_length_le (by omega), ← rzL_map] at hz
    refine ⟨.ref Da, rfl, .inl ⟨Da, zs, rfl, SqL.of eD, fun pt npt => ?_⟩⟩
    have g4 : Gr T none H3 (upd H3 pt (.tup zs)) := gr_new npt
    exact q _ _ (g.trans g4) (PlanV.mk (SqT.of upd_same) (g4.tpAll hz))
theorem ok_law_raise (Df : DefN K mg "_law_raise" sLawRaise ["_law_plan_here", "_law_by", "_law_least"]) (X : Txt mg) : ∀ D, C8.Cal P w K mg base (D + 1) "_law_raise" (spLawRaise T K D) []
  | 0 => calFalse Df fun vs H Q E h => by
      obtain ⟨v, b, c, m, _, _, _, hd, _⟩ := h
      omega
  | D + 1 => ok_law_raise1 Df X (ok_law_raise Df X D)
end
end G6

set_option autoImplicit false
set_option Elab.async false
set_option linter.all false
set_option maxRecDepth 100000
set_option maxHeartbeats 4000000
/-! The law's key. -/
namespace G6
open PySem PySem.Spec PyProof.Rows L2 NdefX LamX
section
variable {P : Program} {w : World} {K : PySem.W.Frag} {mg : Str → Option Value} {base : Heap} {T : List NdefX.NTab}
def wordsV : List V := [.str "name", .str "mark", .str "got", .str "letter", .str "wait"]
def missB (y : V) (j : Nat) : Bool := (List.range j).all fun m => match wordsV[m]? with
  | some z => !eqV z y
  | none => true
theorem miss_of {y : V} {j : Nat} (h : missB y j = true) : ∀ (m : Nat) (z : V), m < j → wordsV[m]? = some z → eqV z y = false := fun m z hm hz => by
  have h2 := List.all_eq_true.mp h m (List.mem_range.mpr hm)
  rw [hz] at h2
  simpa using h2
theorem idx_word (p : Pt) : ∃ z, wordsV[rank p]? = some z ∧ eqV z (.str (wordS p)) = true ∧ ∀ (m : Nat) (z' : V), m < rank p → wordsV[m]? = some z' → eqV z' (.str (wordS p)) = false := by
  cases p with
  | name x => exact ⟨.str "name", rfl, by show eqV (.str "name") (.str "name") = true; decide +kernel, miss_of (by show missB (.str "name") 0 = true; decide +kernel)⟩
  | got d => exact ⟨.str "got", rfl, by show eqV (.str "got") (.str "got") = true; decide +kernel, miss_of (by show missB (.str "got") 2 = true; decide +kernel)⟩
  | box w d b =>
    cases w
    · exact ⟨.str "letter", rfl, by show eqV (.str "letter") (.str "letter") = true; decide +kernel, miss_of (by show missB (.str "letter") 3 = true; decide +kernel)⟩
    · exact ⟨.str "wait", rfl, by show eqV (.str "wait") (.str "wait") = true; decide +kernel, miss_of (by show missB (.str "wait") 4 = true; decide +kernel)⟩
def spKeyS (T : List NdefX.NTab) (K : PySem.W.Frag) (D : Nat) : Sp := fun vs H Q _ => ∃ (v : V) (p : Pt) (n : Nat), vs = [v] ∧ PartV K H v p ∧ FitP n p ∧ dp p < D ∧ ∀ (u : V) (H' : Hp), Gr T none H H' → Tp K H' u (keyD p) → Q u H'
theorem scLawKey : FnScope ["_law_part_here", "_law_rank", "_law_inner", "_law_count", "_law_one"] ["_law_part_here"] (C8.fnScope sLawKey) := C8.fnScope_by (by decide +kernel)
theorem ok_law_key1 (Df : DefN K mg "_law_key" sLawKey ["_law_part_here"]) (X : Txt mg) {n0 D0 L : Nat} (hn : n0 ≤ D0) (hL : 2 * D0 + 3 ≤ L) (cS : C8.Cal P w K mg base (2 * D0 + 3) "_law_part_size" (spPartSize T K D0) []) (cP : C8.Cal P w K mg base L "_law_key" (spKeyS T K n0) []) :
    C8.Cal P w K mg base (L + 1) "_law_key" (spKeyS T K (n0 + 1)) [] := by
  refine mkCal Df scLawKey (fun vs H Q E h => ?_) (fun f cdv A outer s H vs Q E hr h => ?_)
  · obtain ⟨v, p, n, rfl, _⟩ := h; rfl
  obtain ⟨v, p, n, rfl, hv, hg, hd, q⟩ := h
  refine ⟨_, pss_cons (ps_set (i := 1) scLawKey.nd rfl (.inl rfl) (pe_bm PySem.F.plainAttrs_list PySem.F.slot_list_index PySem.F.type_list_index mt_index (pe_lst (pa_cons pe_str (pa_cons pe_str (pa_cons pe_str (pa_cons pe_str (pa_cons pe_str pa_nil)))))) (pa_cons (pe_ix ix_tup (pv 0) pe_int (fun _ _ => rfl)) pa_nil)))
    (pss_cons (ps_set (i := 2) scLawKey.nd rfl (.inl rfl) (pe_tup pa_nil))
    (pss_cons (ps_if (pt_cmpR op_eq (pe_callB call_len_seq (by rfl) X.len PySem.boot_len (pa_cons (pv 0) pa_nil)) pe_int (nomark _))
      (pss_one (ps_set (i := 2) scLawKey.nd rfl (.inl rfl) (pe_tupleOf (by rfl) X.tuple
        (pe_lc (own := [("_law_count", 3), ("_law_one", 4)]) (g := gTup K 2 (gCons (gName 3) (gCons (gName 4) gNil))) (tt := tYes) rfl scLawKey.nd (pi_tup (pe_ix ix_tup (pv 0) pe_int (fun _ _ => rfl))) (blkOk_by (N := ["_law_part_here", "_law_rank", "_law_inner", "_law_count", "_law_one"]) (sc := C8.fnScope sLawKey) (by decide +kernel))
          (fun _ _ _ _ _ => pg_tup rfl (pgs_cons (pg_name (i := 3) scLawKey.nd rfl (Or.inl rfl)) (pgs_cons (pg_name (i := 4) scLawKey.nd rfl (Or.inl rfl)) pgs_nil))) (fun _ _ _ _ _ => pts_nil)
          (fun _ _ _ _ _ => pe_tup (pa_cons (C8.pe_c cP hr (Nat.le_refl _) (by rfl) (pa_cons (pv 4) pa_nil)) (pa_cons (pv 3) pa_nil))))))) pss_nil)
    (pss_one (ps_ret (pe_tup (pa_cons (C8.pe_c cS hr hL (by rfl) (pa_cons (pv 0) pa_nil)) (pa_cons (pv 1) (pa_cons (pe_ix ix_tup (pv 0) pe_int (fun _ _ => rfl)) (pa_cons (pv 2) pa_nil))))))))), ?_⟩
  obtain ⟨va, xs, l, rfl, hS, hw, hl, hlab, hlen⟩ := part_at hv
  obtain ⟨zw, hz1, hz2, hz3⟩ := idx_word p
  refine ⟨by show 5 ≤ sizeLine; decide, fun tl ntl => ⟨.inl ⟨rfl, _, SqL.of upd_same⟩, ?_⟩⟩
  have g1 := gr_new (T := T) (t := none) ntl (o := .lst [.str "name", .str "mark", .str "got", .str "letter", .str "wait"])
  refine rd_ix (i := 0) (k := 0) rfl (g1.sqt0 hS) hw ⟨tl, wordsV, .str (wordS p), rank p, zw, rfl, rfl, SqL.of upd_same, rfl, by decide, hz1, hz2, hz3, ⟨Nat.zero_le _, fun te nte => ?_⟩⟩
  have g2 := gr_new (T := T) (t := none) nte (o := .tup [])
  have g12 := g1.trans g2
  refine ⟨.ref va, rfl, va, xs, rfl, .inr (g12.sqt0 hS), rfl, decide (xs.length = 3), dec_len rfl, ?_⟩
  have hbd : FitL n (bodyOf p) ∨ FitL (n + 1) (bodyOf p) := by
    cases p with
    | name x => exact .inl ⟨by show GoodL n []; rw [GoodL]; trivial, by show ndL [] ≤ _; rw [ndL_nil]; omega, by show szL [] < _; rw [szL_nil]; omega⟩
    | got x => exact .inl ⟨by show GoodL n []; rw [GoodL]; trivial, by show ndL [] ≤ _; rw [ndL_nil]; omega, by show szL [] < _; rw [szL_nil]; omega⟩
    | box w d b =>
      have z := hg.body.2
      cases w
      · exact .inl z
      · exact .inr z
  obtain ⟨nb, hbd⟩ : ∃ nb, FitL nb (bodyOf p) := hbd.elim (fun z => ⟨_, z⟩) fun z => ⟨_, z⟩
  have hbl := hbd.len
  generalize hH2 : upd (upd H tl (.lst [.str "name", .str "mark", .str "got", .str "letter", .str "wait"])) te (.tup []) = H2 at g12 ⊢
  have hte : SqT K H2 te [] := by rw [← hH2]; exact SqT.of upd_same
  rcases hlen with ⟨h3, ⟨w, dd, b, hp⟩, u0, hu0, hpl⟩ | ⟨h2, hb0, _⟩
  case' inl =>
    rw [decide_eq_true h3]
    obtain ⟨ba, bxs, rfl, hbS, hbI⟩ := PlanV.inv (g12.tp hpl)
    have hxl : bxs.length = (bodyOf p).length := hbI.len
    refine iteT (rd_ix (i := 0) (k := 2) rfl (g12.sqt0 hS) hu0 ⟨ba, rfl, ⟨bxs, hbS⟩, fun D nD => lc_it walk_tup (fun i H3 => Gr T none H2 H3 ∧ ∃ ks, H3 D = some (.lst ks) ∧ TpAll K H3 ks (((bodyOf p).take i).map keyI)) ⟨gr_new nD, [], upd_same, .nil⟩ (fun _ _ _ hP => hP.1.sqt0 hbS) (fun i x H3 H4 hi hP hY => ?_) (fun H3 hP => ?_)⟩)
    · obtain ⟨g, ks, e, hk⟩ := hP
      obtain ⟨rfl, hx⟩ := hY
      have hib : i < (bodyOf p).length := by omega
      obtain ⟨x', hx', ht⟩ := hbI.get (List.getElem?_eq_getElem hib)
      rw [hx] at hx'
      cases hx'
      have hm := List.getElem_mem hib
      have hdm := dp_mem hm
      obtain ⟨ia, u, rfl, hS2, hu⟩ := ht.inv
      have hdb : dpL (bodyOf p) < dp p := by rw [hp, dp_box]; show dpL b < 1 + dpL b; omega
      refine ⟨ia, _, rfl, g.sqt0 hS2, rfl, _, _, rfl, _, _, rfl, rfl, rfl, u, rfl, u, (bodyOf p)[i].2, nb, rfl, g.tp hu, hbd.mem hm, by omega, fun k H5 g5 hk5 => ⟨_, rfl, by show 2 ≤ sizeLine; decide, fun pt npt => ?_⟩⟩
      have g6 : Gr T none H5 (upd H5 pt (.tup [k, .int ((bodyOf p)[i].1 : Int)])) := gr_new npt
      have e6 := g6.lst (g5.lst e)
      have hlk : ks.length = i := by
        rw [hk.length, List.length_map, List.length_take]
        omega
      refine ⟨ks, e6, ?_, ?_⟩
      · show _ < 2 ^ 24
        omega
      · have g7 := (g.trans g5).trans g6
        have g8 := g7.mut nD e6 (o := .lst (ks ++ [.ref pt])) (fun _ z => by cases z) (fun _ _ z => by cases z)
        have keep : ∀ a ys, SqT K (upd H5 pt (.tup [k, .int ((bodyOf p)[i].1 : Int)])) a ys → SqT K (upd (upd H5 pt (.tup [k, .int ((bodyOf p)[i].1 : Int)])) D (.lst (ks ++ [.ref pt]))) a ys := fun a ys z => sqt_upd e6 z
        refine ⟨g8, _, upd_same, ?_⟩
        rw [take_snoc _ (List.getElem?_eq_getElem hib)]
        exact tpAll_snoc (TpAll.ext keep _ _ ((g5.trans g6).tpAll hk)) (.tup (keep _ _ (SqT.of upd_same)) (.cons (Tp.ext keep _ _ (g6.tp hk5)) (.cons (.int _) .nil)))
    obtain ⟨g, ks, e, hk⟩ := hP
    rw [List.take_of_length_le (by omega)] at hk
    refine .inl ⟨D, ks, rfl, SqL.of e, fun pt npt => ?_⟩
    have g4 : Gr T none H3 (upd H3 pt (.tup ks)) := gr_new npt
    have gZ := (g12.trans g).trans g4
    have hin : Tp K (upd H3 pt (.tup ks)) (.ref pt) (.tuple (keysD (bodyOf p))) := by
      rw [keysD_map]
      exact .tup (SqT.of upd_same) (g4.tpAll hk)
    generalize upd H3 pt (.tup ks) = HZ at gZ hin ⊢
    generalize pt = te2 at hin ⊢
  case' inr =>
    rw [decide_eq_false (by omega)]
    refine iteF ?_
    have gZ := g12
    have hin : Tp K H2 (.ref te) (.tuple (keysD (bodyOf p))) := by
      rw [hb0, keysD]
      exact .tup hte .nil
    generalize H2 = HZ at gZ hin ⊢
    generalize te = te2 at hin ⊢
  all_goals
    refine ⟨.ref va, rfl, .ref va, p, n, rfl, gZ.tp hv, hg, by omega, fun H7 g7 => ⟨.int (rank p : Int), rfl, rd_ix (i := 0) (k := 1) rfl ((gZ.trans g7).sqt0 hS) hl ⟨.ref te2, rfl, by show 4 ≤ sizeLine; decide, fun tp ntp => ?_⟩⟩⟩
    have g8 := gr_new (T := T) (t := none) ntp (o := .tup [.int (sz p : Int), .int (rank p : Int), l, .ref te2])
    refine q _ _ ((gZ.trans g7).trans g8) ?_
    rw [keyD_eq]
    exact .tup (SqT.of upd_same) (.cons (.int _) (.cons (.int _) (.cons (hlab _) (.cons (g8.tp (g7.tp hin)) .nil))))
theorem ok_law_key (Df : DefN K mg "_law_key" sLawKey ["_law_part_here"]) (X : Txt mg) {D0 : Nat} (cS : C8.Cal P w K mg base (2 * D0 + 3) "_law_part_size" (spPartSize T K D0) []) : ∀ n, n ≤ D0 → C8.Cal P w K mg base (2 * D0 + 3 + n) "_law_key" (spKeyS T K n) []
  | 0, _ => calFalse Df fun vs H Q E h => by
      obtain ⟨v, p, n, _, _, _, hd, _⟩ := h
      omega
  | n + 1, hn => ok_law_key1 (L := 2 * D0 + 3 + n) Df X (n0 := n) (by omega) (by omega) cS (ok_law_key Df X cS n (by omega))
theorem calImp {x : Str} {k : Nat} {sp sp' : Sp} (c : C8.Cal P w K mg base k x sp []) (h : ∀ vs H Q E, sp' vs H Q E → sp vs H Q E) : C8.Cal P w K mg base k x sp' [] := by
  obtain ⟨f, fd, ps, ds, F, r⟩ := c.ex
  exact ⟨f, fd, ps, ds, F.imp h, r⟩
theorem key_of_keyS {k D : Nat} (c : C8.Cal P w K mg base k "_law_key" (spKeyS T K (D + 1)) []) : C8.Cal P w K mg base k "_law_key" (spKey T K D) [] :=
  calImp c fun vs H Q E h => by
    obtain ⟨v, p, n, e, h1, h2, h3, h4⟩ := h
    exact ⟨v, p, n, e, h1, h2, by omega, h4⟩
end
end G6

set_option autoImplicit false
set_option Elab.async false
set_option linter.all false
set_option maxRecDepth 100000
set_option maxHeartbeats 4000000
/-! The law's join. -/
namespace G6
open PySem PySem.Spec PyProof.Rows L2
section
variable {P : Program} {w : World} {K : PySem.W.Frag} {mg : Str → Option Value} {base : Heap} {T' : List (Addr × Str)}
theorem scLawJoined : FnScope ["_law_items", "_law_found", "_law_count", "_law_part_here"] ["_law_items"] (C8.fnScope sLawJoined) := C8.fnScope_by (by decide +kernel)
theorem ok_law_joined {k0 D : Nat} {c Pt' : Addr} (Df : DefC K mg "_law_joined" sLawJoined ["_law_items"] c) (X : Txt mg) (Tb : TabF base mg T' c Pt' "_law_joined.<locals>.<lambda>") (hD : D ≤ 20)
    (hk : 3 * D ≤ 16 * k0 + 150) (cP : C8.Cal P w K mg base k0 "_law_key" (spKey (nT T') K D) []) : C8.Cal P w K mg base (k0 + 5) "_law_joined" (spItems T' K D) [] := by
  refine mkCalC Df scLawJoined (fun vs H Q E h => ?_) (fun f A outer s H vs Q E hr h => ?_)
  · obtain ⟨l, xs, b, n, rfl, _⟩ := h; rfl
  obtain ⟨l, xs, b, n, rfl, hS, hI, hg, hbl, hT, q⟩ := h
  have eq1 : (("_law_joined" : Str) ++ ".<locals>.") ++ "<lambda>" = "_law_joined.<locals>.<lambda>" := by decide +kernel
  have hm : (Pt', (("_law_joined" : Str) ++ ".<locals>.") ++ "<lambda>") ∈ T' := by rw [eq1]; exact Tb.mem
  have hu : ∀ p ∈ T', p.1 = Pt' → p.2 = (("_law_joined" : Str) ++ ".<locals>.") ++ "<lambda>" := by rw [eq1]; exact Tb.uni
  refine ⟨_, pss_cons (ps_set (i := 1) scLawJoined.nd rfl (.inl rfl) (pe_lst pa_nil))
    (pss_cons (ps_for PassesOwn.never rfl (pi_list (pe_sortLam (T' := T') (D := D) (N := ["_law_item"]) (xk := "_law_item") (k := k0) (by rfl) X.sorted (pa_cons (pv 0) pa_nil)
          Tb.tb rfl hm hu (fun b hb => ?_) (hr.mono (by omega)) hk (by rfl) (NdefX.nscope_by (by decide +kernel)) (by decide +kernel) (fun _ _ _ _ _ _ => rfl)
          (fun A outer s H f c' hr2 => C8.pe_c cP hr2 (Nat.le_refl _) (by rfl) (pa_cons (pe_ix ix_tup (pv 0) pe_int (fun _ _ => rfl)) pa_nil))))
        (pg_tup rfl (pgs_cons (pg_name (i := 2) scLawJoined.nd rfl (Or.inl rfl)) (pgs_cons (pg_name (i := 3) scLawJoined.nd rfl (Or.inl rfl)) pgs_nil)))
      (pss_one (ps_if (PW.pt (pw_and (pt_cmpR op_gt (pe_callB call_len_seq (by rfl) X.len PySem.boot_len (pa_cons (pv 1) pa_nil)) pe_int (nomark _))
          (pw_and1 (pt_cmpR (op_eqD hr.units) (pe_ix ix_tup (pe_ix ix_list (pv 1) (pe_un un_neg pe_int) (fun _ _ => rfl)) pe_int (fun _ _ => rfl)) (pv 3) (nomark _)))))
        (pss_one (ps_asg (pe_tup (pa_cons (pe_op op_add (pe_ix ix_tup (pe_ix ix_list (pv 1) (pe_un un_neg pe_int) (fun _ _ => rfl)) pe_int (fun _ _ => rfl)) (pv 2)) (pa_cons (pv 3) pa_nil))) (pg_sub (pv 1) (pe_un un_neg pe_int) set_list)))
        (pss_one (ps_expr (pe_bm PySem.F.plainAttrs_list PySem.F.slot_list_append PySem.F.type_list_append mt_append (pv 1) (pa_cons (pe_tup (pa_cons (pv 2) (pa_cons (pv 3) pa_nil))) pa_nil)))))))
    (pss_one (ps_ret (pe_tupleOf (by rfl) X.tuple (pv 1))))), ?_⟩
  · exact ⟨fun z => hb (by rw [z]; exact List.mem_cons_self ..), fun z => hb (List.mem_cons_of_mem _ z)⟩
  have hxl : xs.length = b.length := hI.len
  refine ⟨Nat.zero_le _, fun Da nDa => ?_⟩
  have gA : Gr (nT T') none H (upd H Da (.lst [])) := gr_new nDa
  have eD : upd H Da (.lst []) Da = some (.lst []) := upd_same
  refine ⟨.ref l, rfl, l, xs, b, n, rfl, sql_new nDa hS, gA.tpAll hI, hg, gA.tabs hT, gA, fun p ys H2 g2 eN hne hys hp => ?_⟩
  have hneD : Da ≠ p := hne Da [] eD
  have eD2 : H2 Da = some (.lst []) := eN _ _ eD fun ps z => by cases z
  have hyl : ys.length = b.length := by rw [hys.len, List.length_mergeSort]
  refine ⟨p, rfl, ⟨ys, SqL.of hp⟩, for_it walk_list (fun i σ H3 => ∃ y1 y2 zs, σ = [some (.ref l), some (.ref Da), y1, y2] ∧ Gr (nT T') none H H3 ∧ H3 p = some (.lst ys) ∧ ItemsV K H3 ys (b.mergeSort leP) ∧ H3 Da = some (.lst zs) ∧ ItemsV K H3 zs (((b.mergeSort leP).take i).foldl joinStep []))
    ⟨none, none, [], rfl, g2, hp, hys, eD2, .nil⟩ (fun i σ H3 _ ⟨_, _, _, _, _, e, _⟩ => SqL.of e) (fun i x σ H3 H4 hi hP hY => ?_) (fun σ H3 hP => ?_)⟩
  · obtain ⟨y1, y2, zs, rfl, g, hp3, hys3, eD3, hz⟩ := hP
    obtain ⟨rfl, hx⟩ := hY
    have hib : i < (b.mergeSort leP).length := by rw [List.length_mergeSort]; omega
    obtain ⟨x', hx', ht⟩ := hys3.get (List.getElem?_eq_getElem hib)
    rw [hx] at hx'
    cases hx'
    have hmem : (b.mergeSort leP)[i] ∈ b := (List.mergeSort_perm b leP).mem_iff.mp (List.getElem_mem hib)
    rw [foldl_take_succ _ _ (List.getElem?_eq_getElem hib)]
    have hacc : (((b.mergeSort leP).take i).foldl joinStep []).length ≤ 4000 := by
      have h1 := join_len ((b.mergeSort leP).take i) []
      rw [List.length_take, List.length_nil] at h1
      omega
    generalize (b.mergeSort leP)[i] = q at ht hmem ⊢
    have hpm : ∀ x ∈ ((b.mergeSort leP).take i).foldl joinStep [], ∃ y ∈ b, y.2 = x.2 := fun x hx => by
      obtain ⟨y, hy, e⟩ := join_part hx
      exact ⟨y, (List.mergeSort_perm b leP).mem_iff.mp (List.mem_of_mem_take hy), e⟩
    generalize ((b.mergeSort leP).take i).foldl joinStep [] = acc at hz hacc hpm ⊢
    obtain ⟨ia, u, rfl, hS2, hu⟩ := ht.inv
    refine ⟨ia, _, rfl, hS2, rfl, _, _, rfl, _, _, rfl, rfl, .ref Da, rfl, Da, zs, rfl, .inl (SqL.of eD3), (zs.length : Int), 0, rfl, rfl, decide (0 < zs.length), ?_, ?_⟩
    · exact congrArg V.bl (decide_eq_decide.mpr ⟨fun z => by omega, fun z => by omega⟩)
    have hneD' : p ≠ Da := fun z => hneD z.symm
    by_cases hc : ∃ a c0, acc = a ++ [(c0, q.2)]
    · obtain ⟨a, c0, rfl⟩ := hc
      obtain ⟨zs', zv, rfl, hz1, hzv⟩ := items_snoc_inv hz
      obtain ⟨za, zu, rfl, hzS, hzu⟩ := hzv.inv
      have eq2 : PyData.eqv (partD q.2) (partD q.2) = true := by rw [part_eqv]; exact decide_eq_true rfl
      have hsh := items_shaped (hg q hmem).1 (hg q hmem).2 hD
      rw [decide_eq_true (by simp)]
      refine iteT ⟨.ref Da, rfl, 1, rfl, Da, _, -1, .ref za, rfl, rfl, SqL.of eD3, atI_last _ _, za, _, 1, zu, rfl, rfl, hzS, atI_nat (j := 1) rfl, u, rfl, partD q.2, partD q.2, hzu.dp, hu.dp, hsh, hsh, true, congrArg V.bl eq2, iteT ?_⟩
      refine ⟨.ref Da, rfl, 1, rfl, Da, _, -1, .ref za, rfl, rfl, SqL.of eD3, atI_last _ _, za, _, 0, .int (c0 : Int), rfl, rfl, hzS, atI_nat (j := 0) rfl, .int (q.1 : Int), rfl, (c0 : Int), (q.1 : Int), rfl, rfl, u, rfl, by show 2 ≤ sizeLine; decide, fun tp ntp => ?_⟩
      have eD5 : upd H4 tp (.tup [.int ((c0 : Int) + (q.1 : Int)), u]) Da = some (.lst (zs' ++ [.ref za])) := by rw [upd_ne (ne_of_none eD3 ntp)]; exact eD3
      refine ⟨.ref Da, rfl, 1, rfl, Da, _, -1, zs'.length, rfl, rfl, eD5, ixN_last zs' _, ?_⟩
      rw [set_last, joinStep_same]
      have g6 : Gr (nT T') none H4 (upd H4 tp (.tup [.int ((c0 : Int) + (q.1 : Int)), u])) := gr_new ntp
      have hp5 : upd H4 tp (.tup [.int ((c0 : Int) + (q.1 : Int)), u]) p = some (.lst ys) := g6.lst hp3
      have keep : ∀ a ys, SqT K (upd H4 tp (.tup [.int ((c0 : Int) + (q.1 : Int)), u])) a ys → SqT K (upd (upd H4 tp (.tup [.int ((c0 : Int) + (q.1 : Int)), u])) Da (.lst (zs' ++ [.ref tp]))) a ys := fun a ys z => sqt_upd eD5 z
      refine ⟨_, _, _, rfl, (g.trans g6).mut nDa eD5 (fun _ z => by cases z) (fun _ _ z => by cases z), ?_, TpAll.ext keep _ _ (g6.tpAll hys3), upd_same, ?_⟩
      · rw [upd_ne hneD']
        exact hp5
      · refine ItemsV.snoc (TpAll.ext keep _ _ (g6.tpAll hz1)) ?_
        have z2 : (((c0 + q.1 : Nat)) : Int) = (c0 : Int) + (q.1 : Int) := by push_cast; rfl
        refine ItemV.mk (by rw [z2]; exact keep _ _ (SqT.of upd_same)) (Tp.ext keep _ _ (g6.tp hu))
    rcases list_end acc with rfl | ⟨a, ⟨c0, p0⟩, rfl⟩
    case' neg.inl =>
      cases hz.nil_inv
      rw [decide_eq_false (by simp)]
      refine iteF (iteF ?_)
      have ej : joinStep [] q = [] ++ [q] := rfl
      rw [ej]
    case' neg.inr =>
      have hpq : p0 ≠ q.2 := fun z => hc ⟨a, c0, by rw [z]⟩
      rw [joinStep_other a c0 p0 q hpq]
      obtain ⟨zs', zv, rfl, hz1, hzv⟩ := items_snoc_inv hz
      obtain ⟨za, zu, rfl, hzS, hzu⟩ := hzv.inv
      have eq2 : PyData.eqv (partD p0) (partD q.2) = false := by rw [part_eqv]; exact decide_eq_false hpq
      obtain ⟨q0, hq0, eq0⟩ := hpm (c0, p0) (by simp)
      have hsh := items_shaped (hg q hmem).1 (hg q hmem).2 hD
      have hsh0 := items_shaped (hg q0 hq0).1 (hg q0 hq0).2 hD
      rw [eq0] at hsh0
      rw [decide_eq_true (by simp)]
      refine iteT ⟨.ref Da, rfl, 1, rfl, Da, _, -1, .ref za, rfl, rfl, SqL.of eD3, atI_last _ _, za, _, 1, zu, rfl, rfl, hzS, atI_nat (j := 1) rfl, u, rfl, partD p0, partD q.2, hzu.dp, hu.dp, hsh0, hsh, false, congrArg V.bl eq2, iteF ?_⟩
      generalize zs' ++ [V.ref za] = zs at hz eD3 ⊢
      generalize a ++ [(c0, p0)] = acc at hz hacc ⊢
    all_goals
      refine ⟨.ref Da, rfl, .inl ⟨rfl, _, SqL.of eD3⟩, .int (q.1 : Int), rfl, u, rfl, by show 2 ≤ sizeLine; decide, fun tp ntp => ?_⟩
      have g6 : Gr (nT T') none H4 (upd H4 tp (.tup [.int (q.1 : Int), u])) := gr_new ntp
      have eD5 := g6.lst eD3
      have hp5 := g6.lst hp3
      refine ⟨Da, _, .ref tp, rfl, rfl, eD5, ?_, ?_⟩
      · have := hz.len
        show _ < 2 ^ 24
        omega
      have keep : ∀ a ys zs, SqT K (upd H4 tp (.tup [.int (q.1 : Int), u])) a ys → SqT K (upd (upd H4 tp (.tup [.int (q.1 : Int), u])) Da (.lst zs)) a ys := fun a ys zs z => sqt_upd eD5 z
      refine ⟨_, _, _, rfl, (g.trans g6).mut nDa eD5 (fun _ z => by cases z) (fun _ _ z => by cases z), ?_, TpAll.ext (fun a ys => keep a ys _) _ _ (g6.tpAll hys3), upd_same, ?_⟩
      · rw [upd_ne hneD']
        exact hp5
      · exact ItemsV.snoc (TpAll.ext (fun a ys => keep a ys _) _ _ (g6.tpAll hz)) (ItemV.mk (keep _ _ _ (SqT.of upd_same)) (Tp.ext (fun a ys => keep a ys _) _ _ (g6.tp hu)))
  · obtain ⟨y1, y2, zs, rfl, g, hp3, hys3, eD3, hz⟩ := hP
    rw [List.take_of_length_le (by rw [List.length_mergeSort]; omega)] at hz
    refine ⟨.ref Da, rfl, .inl ⟨Da, zs, rfl, SqL.of eD3, fun pt npt => ?_⟩⟩
    have g4 : Gr (nT T') none H3 (upd H3 pt (.tup zs)) := gr_new npt
    exact q _ _ (g.trans g4) (PlanV.mk (SqT.of upd_same) (g4.tpAll hz))
end
end G6

set_option autoImplicit false
set_option Elab.async false
set_option linter.all false
set_option maxRecDepth 100000
set_option maxHeartbeats 4000000
/-! The law's form. -/
namespace G6
open PySem PySem.Spec PyProof.Rows L2 NdefX LamX
section
variable {P : Program} {w : World} {K : PySem.W.Frag} {mg : Str → Option Value} {base : Heap} {T' : List (Addr × Str)}
theorem scLawForm : FnScope ["_law_plan_here", "_law_items", "_law_count", "_law_part_here", "_law_body", "_law_many", "_law_one", "_law_rest", "_law_item"] ["_law_plan_here"] (C8.fnScope sLawForm) := C8.fnScope_by (by decide +kernel)
theorem take_filter {p : Pt} {B : Pl} {i : Nat} {q : Nat × Pt} (h : B[i]? = some q) : (B.take (i + 1)).filter (fun q => !decide (q.2 = p)) = (B.take i).filter (fun q => !decide (q.2 = p)) ++ (if q.2 = p then [] else [q]) := by
  rw [List.take_add_one, h, List.filter_append]
  congr 1
  by_cases e : q.2 = p
  · rw [if_pos e]
    simp [e]
  · rw [if_neg e]
    simp [e]
theorem ok_law_form1 (Df : DefN K mg "_law_form" sLawForm ["_law_plan_here"]) (X : Txt mg) {D L : Nat} (hD : D ≤ 20) (hL : D + 1 ≤ L) (cR : C8.Cal P w K mg base (D + 1) "_law_raise" (spLawRaise (nT T') K D) []) (cJ : C8.Cal P w K mg base L "_law_joined" (spItems T' K D) [])
    (cF : C8.Cal P w K mg base L "_law_form" (spPlain T' K D) []) : C8.Cal P w K mg base (L + 1) "_law_form" (spPlain T' K (D + 1)) [] := by
  refine mkCal Df scLawForm (fun vs H Q E h => ?_) (fun f cdv A outer s H vs Q E hr h => ?_)
  · obtain ⟨v, b, n, rfl, _⟩ := h; rfl
  obtain ⟨v, b, n, rfl, hv, hg, hd, hT, q⟩ := h
  obtain ⟨a, xs, rfl, hS, hI⟩ := hv.inv
  refine ⟨_, pss_cons (ps_set (i := 1) scLawForm.nd rfl (.inl rfl) (pe_lst pa_nil))
    (pss_cons (ps_for PassesOwn.never rfl (pi_tup (pv 0)) (pg_tup rfl (pgs_cons (pg_name (i := 2) scLawForm.nd rfl (by first | exact Or.inl rfl | exact Or.inr rfl)) (pgs_cons (pg_name (i := 3) scLawForm.nd rfl (by first | exact Or.inl rfl | exact Or.inr rfl)) pgs_nil)))
      (pss_cons (ps_if (pt_cmpR op_eq (pe_ix ix_tup (pv 3) pe_int (fun _ _ => rfl)) pe_str (nomark _))
        (pss_one (ps_set (i := 3) scLawForm.nd rfl (by first | exact Or.inl rfl | exact Or.inr rfl) (pe_tup (pa_cons pe_str (pa_cons (pe_ix ix_tup (pv 3) pe_int (fun _ _ => rfl)) (pa_cons (C8.pe_c cF hr (Nat.le_refl _) (by rfl) (pa_cons (pe_ix ix_tup (pv 3) pe_int (fun _ _ => rfl)) pa_nil)) pa_nil)))))) pss_nil)
      (pss_cons (ps_if (pt_cmpR op_eq (pe_ix ix_tup (pv 3) pe_int (fun _ _ => rfl)) pe_str (nomark _))
        (pss_cons (ps_set (i := 4) scLawForm.nd rfl (by first | exact Or.inl rfl | exact Or.inr rfl) (C8.pe_c cF hr (Nat.le_refl _) (by rfl) (pa_cons (pe_ix ix_tup (pv 3) pe_int (fun _ _ => rfl)) pa_nil)))
        (pss_cons (ps_for PassesOwn.never rfl (pi_tup (pv 4)) (pg_tup rfl (pgs_cons (pg_name (i := 5) scLawForm.nd rfl (by first | exact Or.inl rfl | exact Or.inr rfl)) (pgs_cons (pg_name (i := 6) scLawForm.nd rfl (by first | exact Or.inl rfl | exact Or.inr rfl)) pgs_nil)))
          (pss_cons (ps_set (i := 7) scLawForm.nd rfl (by first | exact Or.inl rfl | exact Or.inr rfl) (pe_tupleOf (by rfl) X.tuple
              (pe_lc (own := [("_law_item", 8)]) (g := gName 8) rfl scLawForm.nd (pi_tup (pv 4)) (blkOk_by (N := ["_law_plan_here", "_law_items", "_law_count", "_law_part_here", "_law_body", "_law_many", "_law_one", "_law_rest", "_law_item"]) (sc := C8.fnScope sLawForm) (by decide +kernel))
                (fun _ _ _ _ _ => pg_name (i := 8) scLawForm.nd rfl (Or.inl rfl)) (fun _ _ _ _ _ => pts_one (pt_cmpR (show OpR _ (compareOp .NotEq) (rNeD K) from op_neD hr.units) (pe_ix (show IxR _ (rIxT K) from ix_tup) (pv 8) pe_int (fun _ _ => rfl)) (pv 6) (nomark _)))
                (fun _ _ _ _ _ => pv 8))))
          (pss_one (ps_if (PW.pt (pw_and (pt_cmpR op_eq (pe_ix ix_tup (pv 6) pe_int (fun _ _ => rfl)) pe_str (nomark _)) (pw_and (pt_cmpR op_eq (pe_ix ix_tup (pv 6) pe_int (fun _ _ => rfl)) (pe_ix ix_tup (pv 3) pe_int (fun _ _ => rfl)) (nomark _))
              (pw_and1 (pt_cmpR (op_eqD hr.units) (pe_ix ix_tup (pv 6) pe_int (fun _ _ => rfl)) (C8.pe_c cR hr hL (by rfl) (pa_cons (pv 7) (pa_cons pe_int (pa_cons pe_int pa_nil)))) (nomark _))))))
            (pss_cons (ps_set (i := 4) scLawForm.nd rfl (by first | exact Or.inl rfl | exact Or.inr rfl) (pv 7))
              (pss_cons (ps_set (i := 2) scLawForm.nd rfl (by first | exact Or.inl rfl | exact Or.inr rfl) (pe_op op_mul (pv 2) (pe_op op_add (pv 5) pe_int))) (pss_one ps_break))) pss_nil))))
        (pss_one (ps_set (i := 3) scLawForm.nd rfl (by first | exact Or.inl rfl | exact Or.inr rfl) (pe_tup (pa_cons pe_str (pa_cons (pe_ix ix_tup (pv 3) pe_int (fun _ _ => rfl)) (pa_cons (pv 4) pa_nil)))))))) pss_nil)
      (pss_one (ps_expr (pe_bm PySem.F.plainAttrs_list PySem.F.slot_list_append PySem.F.type_list_append mt_append (pv 1) (pa_cons (pe_tup (pa_cons (pv 2) (pa_cons (pv 3) pa_nil))) pa_nil)))))))
    (pss_one (ps_ret (C8.pe_c cJ hr (Nat.le_refl _) (by rfl) (pa_cons (pv 1) pa_nil))))), ?_⟩
  have hxl : xs.length = b.length := hI.len
  refine ⟨Nat.zero_le _, fun Da nDa => ⟨.ref a, rfl, a, rfl, ⟨xs, (gr_new (T := nT T') (t := none) nDa).sqt0 hS⟩, for_it walk_tup (fun i σ H3 => ∃ y2 y3 y4 y5 y6 y7 zs, σ = [some (.ref a), some (.ref Da), y2, y3, y4, y5, y6, y7, none] ∧ Gr (nT T') none H H3 ∧ H3 Da = some (.lst zs) ∧ ItemsV K H3 zs ((b.take i).map fun q => (q.1 * (mp q.2).1, (mp q.2).2)))
    ⟨none, none, none, none, none, none, [], rfl, gr_new nDa, upd_same, .nil⟩ (fun i σ H3 _ ⟨_, _, _, _, _, _, _, _, g, _⟩ => g.sqt0 hS) (fun i x σ H3 H4 hi hP hY => ?_) (fun σ H3 hP => ?_)⟩⟩
  · obtain ⟨y2, y3, y4, y5, y6, y7, zs, rfl, g, eD, hz⟩ := hP
    obtain ⟨rfl, hx⟩ := hY
    have hib : i < b.length := by omega
    obtain ⟨x', hx', ht⟩ := hI.get (List.getElem?_eq_getElem hib)
    rw [hx] at hx'
    cases hx'
    have hmem := List.getElem_mem hib
    have hfp := hg.mem hmem
    have hdm := dp_mem hmem
    have hcnt := hg.cnt hmem
    rw [take_snoc _ (List.getElem?_eq_getElem hib)]
    have hsz : zs.length < sizeLine := by
      have h1 := hz.len
      rw [List.length_map, List.length_take] at h1
      have := hg.len
      show _ < 2 ^ 24
      omega
    generalize b[i] = q0 at ht hfp hdm hcnt ⊢
    obtain ⟨c0, p⟩ := q0
    obtain ⟨ia, u, rfl, hS2, hu⟩ := ht.inv
    have hu' : PartV K H4 u p := g.tp hu
    refine ⟨ia, _, rfl, g.sqt0 hS2, rfl, _, _, rfl, _, _, rfl, rfl, ?_⟩
    by_cases hbx : ∃ wt d bb, p = .box wt d bb
    · obtain ⟨wt, d, bb, rfl⟩ := hbx
      obtain ⟨pa, pu, rfl, hpS, hpb⟩ := hu'.box_inv
      obtain ⟨hlab, hbb⟩ := hfp.body
      rw [dp_box] at hdm
      cases wt with
      | false =>
        refine rd_ixEq (i := 3) (k := 0) rfl hpS rfl true (by decide) (iteT (rd_ix (i := 3) (k := 1) rfl hpS rfl (rd_ix (i := 3) (k := 2) rfl hpS rfl ⟨pu, bb, n, rfl, hpb, hbb, by omega, g.tabs hT, fun r H5 g5 hr5 => ⟨by show 3 ≤ sizeLine; decide, fun t1 n1 => ?_⟩⟩)))
        have gx := gr_new (T := nT T') (t := none) n1 (o := .tup [.str "letter", .str (S d), r])
        have h2 : SqT K (upd H5 t1 (.tup [.str "letter", .str (S d), r])) t1 [.str "letter", .str (S d), r] := SqT.of upd_same
        refine rd_ixEq (i := 3) (k := 0) rfl h2 rfl false (by decide) (iteF ?_)
        refine ⟨.ref Da, rfl, .inl ⟨rfl, zs, SqL.of ((g5.trans gx).lst eD)⟩, .int (c0 : Int), rfl, .ref t1, rfl, by show 2 ≤ sizeLine; decide, fun t2 n2 => ?_⟩
        have gy := gr_new (T := nT T') (t := none) n2 (o := .tup [.int (c0 : Int), .ref t1])
        obtain ⟨e6, g7, z7⟩ := push_item nDa g eD hz ((g5.trans gx).trans gy) (ItemV.mk (c := c0) (SqT.of upd_same) (gy.tp (PartV.box_mk (w := false) (SqT.of upd_same) (gx.tp hr5))))
        exact ⟨Da, zs, _, rfl, rfl, e6, hsz, _, _, _, _, _, _, _, rfl, g7, upd_same, by rw [mp_letter, Nat.mul_one]; exact z7⟩
      | true =>
        have hpl : FitL (n + 1) bb := hbb
        refine rd_ixEq (i := 3) (k := 0) rfl hpS rfl false (by decide) (iteF ?_)
        refine rd_ixEq (i := 3) (k := 0) rfl hpS rfl true (by decide) (iteT (rd_ix (i := 3) (k := 2) rfl hpS rfl ⟨pu, bb, n + 1, rfl, hpb, hpl, by omega, g.tabs hT, fun r H5 g5 hr5 => ?_⟩))
        obtain ⟨ba, bxs, rfl, hbS, hbI⟩ := hr5.inv
        have hB := hpl.plain
        have hBd : dpL (plainOf bb) < D := by
          have := (ndL_plain hpl.good).2
          omega
        have hBa : Asc (plainOf bb) := (plain_spec hpl.good.pos).1
        have emp : mp (.box true d bb) = folded d (plainOf bb) := mp_wait d bb
        generalize plainOf bb = B at hr5 hbI hB hBd hBa emp
        have hbl : bxs.length = B.length := hbI.len
        have hB4 := hB.len
        have g05 := g.trans g5
        refine ⟨.ref ba, rfl, ba, rfl, ⟨bxs, hbS⟩, for_it walk_tup (fun j σ H6 => ∃ y5 y6 y7, σ = [some (.ref a), some (.ref Da), some (.int (c0 : Int)), some (.ref pa), some (.ref ba), y5, y6, y7, none] ∧ Gr (nT T') none H5 H6 ∧ ∀ k, k < j → hit d B k = false)
          ⟨_, _, _, rfl, Gr.refl H5, fun k h => absurd h (Nat.not_lt_zero _)⟩ (fun j σ H6 _ ⟨_, _, _, _, g6, _⟩ => g6.sqt0 hbS) (fun j x σ H6 H7 hj hP hY => ?_) (fun σ H6 hP => ?_)⟩
        · obtain ⟨y5, y6, y7, rfl, g6, hno⟩ := hP
          obtain ⟨rfl, hx⟩ := hY
          have hjb : j < B.length := by omega
          obtain ⟨x', hx', ht⟩ := hbI.get (List.getElem?_eq_getElem hjb)
          rw [hx] at hx'
          cases hx'
          have hmem := List.getElem_mem hjb
          have hfq := hB.mem hmem
          have hdq := dp_mem hmem
          have hgetB : B[j]? = some B[j] := List.getElem?_eq_getElem hjb
          generalize B[j] = q1 at ht hfq hdq hgetB
          obtain ⟨k1, p1⟩ := q1
          obtain ⟨ib, u1, rfl, hSb, hub⟩ := ht.inv
          have hub7 : PartV K H7 u1 p1 := g6.tp hub
          have hbI7 : ItemsV K H7 bxs B := g6.tpAll hbI
          have hsh1 := part_shaped hfq.good (show dp p1 ≤ 20 by have : dp p1 ≤ dpL B := hdq; omega)
          refine ⟨ib, _, rfl, g6.sqt0 hSb, rfl, _, _, rfl, _, _, rfl, rfl, .ref ba, rfl, ba, rfl, ⟨bxs, g6.sqt0 hbS⟩, fun Dl nDl => lc_it walk_tup (fun m H8 => Gr (nT T') none H7 H8 ∧ ∃ ws, H8 Dl = some (.lst ws) ∧ ItemsV K H8 ws ((B.take m).filter (fun q => !decide (q.2 = p1)))) ⟨gr_new nDl, [], upd_same, .nil⟩ (fun _ _ _ hP => (g6.trans hP.1).sqt0 hbS) (fun m x H8 H9 hm hP hY => ?_) (fun H8 hP => ?_)⟩
          · obtain ⟨g8, ws, e8, hws⟩ := hP
            obtain ⟨rfl, hx2⟩ := hY
            have hmb : m < B.length := by omega
            obtain ⟨x2, hx2', ht2⟩ := hbI7.get (List.getElem?_eq_getElem hmb)
            rw [hx2] at hx2'
            cases hx2'
            have hmem2 := List.getElem_mem hmb
            have hfr := hB.mem hmem2
            have hdr := dp_mem hmem2
            rw [take_filter (List.getElem?_eq_getElem hmb)]
            have hwl : ws.length < sizeLine := by
              have h1 := hws.len
              have h2 := List.length_filter_le (fun q : Nat × Pt => !decide (q.2 = p1)) (B.take m)
              rw [List.length_take] at h2
              show _ < 2 ^ 24
              omega
            generalize B[m] = q2 at ht2 hfr hdr ⊢
            obtain ⟨k2, p2⟩ := q2
            obtain ⟨ic, u2, rfl, hSc, huc⟩ := ht2.inv
            have hsh2 := part_shaped hfr.good (show dp p2 ≤ 20 by have : dp p2 ≤ dpL B := hdr; omega)
            have en : V.bl (!PyData.eqv (partD p2) (partD p1)) = V.bl (!decide (p2 = p1)) := by rw [part_eqv]
            refine ⟨rfl, rd_ix (i := 8) (k := 1) rfl (g8.sqt0 hSc) rfl ⟨u1, rfl, partD p2, partD p1, (g8.tp huc).dp, (g8.tp hub7).dp, hsh2, hsh1, !decide (p2 = p1), en, ?_⟩⟩
            by_cases hpp : p2 = p1
            · rw [decide_eq_true hpp]
              refine iteF ⟨g8, ws, e8, ?_⟩
              rw [if_pos hpp, List.append_nil]
              exact hws
            · rw [decide_eq_false hpp]
              refine iteT ⟨.ref ic, rfl, ws, e8, hwl, ?_⟩
              obtain ⟨e9, g9, z9⟩ := push_item nDl g8 e8 hws (Gr.refl _) (show ItemV K H9 (.ref ic) (k2, p2) from g8.tp ht2)
              exact ⟨g9, _, upd_same, by rw [if_neg hpp]; exact z9⟩
          obtain ⟨g8, ws, e8, hws⟩ := hP
          rw [List.take_of_length_le (by omega), filter_erase hBa hgetB] at hws
          refine .inl ⟨Dl, ws, rfl, SqL.of e8, fun rt nrt => ?_⟩
          have gr9 := gr_new (T := nT T') (t := none) nrt (o := .tup ws)
          have hrest : PlanV K (upd H8 rt (.tup ws)) (.ref rt) (B.eraseIdx j) := PlanV.mk (SqT.of upd_same) (gr9.tpAll hws)
          have g79 := g8.trans gr9
          have g59 := g6.trans g79
          generalize upd H8 rt (.tup ws) = H9 at hrest g79 g59 ⊢
          have hub9 : PartV K H9 u1 p1 := g79.tp hub7
          have hnext : ∀ k, k < j + 1 → hit d B j = false → hit d B k = false := fun k hk hh => by
            rcases Nat.lt_succ_iff_lt_or_eq.mp hk with z | z
            · exact hno k z
            · rw [z]
              exact hh
          obtain ⟨oa, oxs, ol, rfl, hoS, how, hol, holab, _⟩ := part_at hub9
          have hpS9 := (g5.trans g59).sqt0 hpS
          by_cases hw1 : ∃ d1 b1, p1 = .box true d1 b1
          · obtain ⟨d1, b1, rfl⟩ := hw1
            obtain ⟨oa', ou, eo, hoS', hob⟩ := hub9.box_inv
            cases eo
            have hb1 := hfq.body.2
            have hd1 : dpL b1 ≤ 20 := by
              have z : dp (.box true d1 b1) ≤ dpL B := hdq
              rw [dp_box] at z
              omega
            refine rd_ixEq (i := 6) (k := 0) rfl hoS' rfl true (by decide) (iteT (rd_ix (i := 6) (k := 1) rfl hoS' rfl (rd_ix (i := 3) (k := 1) rfl hpS9 rfl ⟨rfl, decide (d1 = d), ?_, ?_⟩)))
            · rw [← S_eq]
              exact congrArg V.bl (decide_eq_decide.mpr ⟨fun z => V.str.inj z, fun z => by rw [z]⟩)
            by_cases hdd : d1 = d
            · subst hdd
              rw [decide_eq_true rfl]
              have fr := hB.sub (List.eraseIdx_sublist B j)
              have hdr := dpL_sub (List.eraseIdx_sublist B j)
              refine iteT (rd_ix (i := 6) (k := 2) rfl hoS' rfl ⟨.ref rt, rfl, .ref rt, B.eraseIdx j, 1, n + 1, rfl, hrest, fr, by omega, fun r2 H10 g10 hr10 => ?_⟩)
              have eqv := plan_eqv b1 (rzL 1 (B.eraseIdx j))
              refine ⟨planD b1, planD (rzL 1 (B.eraseIdx j)), (g10.tp hob).dp, hr10.dp, plan_shaped hb1.good hd1, plan_shaped (fr.rz 1).good (by rw [(ndL_rz _ 1).2]; omega), decide (b1 = rzL 1 (B.eraseIdx j)), congrArg V.bl eqv, ?_⟩
              by_cases hb : b1 = rzL 1 (B.eraseIdx j)
              · rw [decide_eq_true hb]
                have hh : hit d1 B j = true := hit_iff.mpr ⟨k1, by rw [hgetB, hb]⟩
                have ef := folded_hit hB.good.pos hh hgetB
                rw [ef] at emp
                refine iteT ⟨.ref rt, rfl, .int (c0 : Int), rfl, .int (k1 : Int), rfl, (k1 : Int), 1, rfl, rfl, (c0 : Int), (k1 : Int) + 1, rfl, rfl, .inl ⟨by omega, by have : c0 < 2 ^ 64 := hcnt; omega⟩, ?_⟩
                have g4Z := (g5.trans g59).trans g10
                have hR := g10.tp hrest
                have hlb := g4Z.sqt0 hpS
                have ezz : (c0 : Int) * ((k1 : Int) + 1) = ((c0 * (k1 + 1) : Nat) : Int) := by push_cast; rfl
                refine rd_ix (i := 3) (k := 1) rfl hlb rfl ⟨.ref rt, rfl, by show 3 ≤ sizeLine; decide, fun t1 n1 => ?_⟩
                have gx := gr_new (T := nT T') (t := none) n1 (o := .tup [.str "wait", .str (S d1), .ref rt])
                have g4X := g4Z.trans gx
                refine ⟨.ref Da, rfl, .inl ⟨rfl, zs, SqL.of (g4X.lst eD)⟩, .int ((c0 : Int) * ((k1 : Int) + 1)), rfl, .ref t1, rfl, by show 2 ≤ sizeLine; decide, fun t2 n2 => ?_⟩
                have gy := gr_new (T := nT T') (t := none) n2 (o := .tup [.int ((c0 : Int) * ((k1 : Int) + 1)), .ref t1])
                obtain ⟨e6, g7, z7⟩ := push_item nDa g eD hz (g4X.trans gy) (ItemV.mk (c := c0 * (k1 + 1)) (p := .box true d1 (B.eraseIdx j)) (by rw [← ezz]; exact SqT.of upd_same) (gy.tp (PartV.box_mk (w := true) (SqT.of upd_same) (gx.tp hR))))
                exact ⟨Da, zs, _, rfl, rfl, e6, hsz, _, _, _, _, _, _, _, rfl, g7, upd_same, by rw [emp]; exact z7⟩
              · rw [decide_eq_false hb]
                refine iteF ⟨_, _, _, rfl, g59.trans g10, fun k hk => hnext k hk ?_⟩
                cases hh : hit d1 B j with
                | false => rfl
                | true =>
                  obtain ⟨k, e⟩ := hit_iff.mp hh
                  rw [hgetB] at e
                  cases e
                  exact absurd rfl hb
            · rw [decide_eq_false hdd]
              refine iteF ?_
              refine ⟨_, _, _, rfl, g59, fun k hk => hnext k hk ?_⟩
              cases hh : hit d B j with
              | false => rfl
              | true =>
                obtain ⟨k, e⟩ := hit_iff.mp hh
                rw [hgetB] at e
                cases e
                exact absurd rfl hdd
          · have w1 : decide (wordS p1 = "wait") = false := by
              cases p1 with
              | name x => exact decide_eq_false (by show ("name" : Str) ≠ "wait"; decide)
              | got x => exact decide_eq_false (by show ("got" : Str) ≠ "wait"; decide)
              | box w d b =>
                cases w
                · exact decide_eq_false (by show kindS false ≠ "wait"; decide)
                · exact absurd ⟨d, b, rfl⟩ hw1
            refine rd_ixEq (i := 6) (k := 0) rfl hoS how false w1 (iteF ?_)
            refine iteF ⟨_, _, _, rfl, g59, fun k hk => hnext k hk ?_⟩
            cases hh : hit d B j with
            | false => rfl
            | true =>
              obtain ⟨k, e⟩ := hit_iff.mp hh
              rw [hgetB] at e
              cases e
              exact absurd ⟨_, _, rfl⟩ hw1
        · obtain ⟨y5, y6, y7, rfl, g6, hno⟩ := hP
          have ef : folded d B = (1, .box true d B) := folded_miss fun k hk => hno k (by omega)
          rw [ef] at emp
          have g4Z := g5.trans g6
          have hR := g6.tp hr5
          have hlb := g4Z.sqt0 hpS
          have ezz : (c0 : Int) = ((c0 * 1 : Nat) : Int) := by rw [Nat.mul_one]
          refine rd_ix (i := 3) (k := 1) rfl hlb rfl ⟨.ref ba, rfl, by show 3 ≤ sizeLine; decide, fun t1 n1 => ?_⟩
          have gx := gr_new (T := nT T') (t := none) n1 (o := .tup [.str "wait", .str (S d), .ref ba])
          have g4X := g4Z.trans gx
          refine ⟨.ref Da, rfl, .inl ⟨rfl, zs, SqL.of (g4X.lst eD)⟩, .int ((c0 : Int)), rfl, .ref t1, rfl, by show 2 ≤ sizeLine; decide, fun t2 n2 => ?_⟩
          have gy := gr_new (T := nT T') (t := none) n2 (o := .tup [.int ((c0 : Int)), .ref t1])
          obtain ⟨e6, g7, z7⟩ := push_item nDa g eD hz (g4X.trans gy) (ItemV.mk (c := c0 * (1)) (p := .box true d (B)) (by rw [← ezz]; exact SqT.of upd_same) (gy.tp (PartV.box_mk (w := true) (SqT.of upd_same) (gx.tp hR))))
          exact ⟨Da, zs, _, rfl, rfl, e6, hsz, _, _, _, _, _, _, _, rfl, g7, upd_same, by rw [emp]; exact z7⟩
    · obtain ⟨pa, pxs, l, rfl, hpS, hw, _⟩ := part_at hu'
      have hnb : ∀ w d b, p ≠ .box w d b := fun w d b z => hbx ⟨w, d, b, z⟩
      have w1 : decide (wordS p = "letter") = false := by
        cases p with
        | name x => exact decide_eq_false (by show ("name" : Str) ≠ "letter"; decide)
        | got x => exact decide_eq_false (by show ("got" : Str) ≠ "letter"; decide)
        | box w d b => exact absurd rfl (hnb w d b)
      have w2 : decide (wordS p = "wait") = false := by
        cases p with
        | name x => exact decide_eq_false (by show ("name" : Str) ≠ "wait"; decide)
        | got x => exact decide_eq_false (by show ("got" : Str) ≠ "wait"; decide)
        | box w d b => exact absurd rfl (hnb w d b)
      have em : mp p = (1, p) := by
        cases p with
        | name x => exact mp_name x
        | got x => exact mp_got x
        | box w d b => exact absurd rfl (hnb w d b)
      refine rd_ixEq (i := 3) (k := 0) rfl hpS hw false w1 (iteF ?_)
      refine rd_ixEq (i := 3) (k := 0) rfl hpS hw false w2 (iteF ?_)
      refine ⟨.ref Da, rfl, .inl ⟨rfl, zs, SqL.of eD⟩, .int (c0 : Int), rfl, .ref pa, rfl, by show 2 ≤ sizeLine; decide, fun t2 n2 => ?_⟩
      have gy := gr_new (T := nT T') (t := none) n2 (o := .tup [.int (c0 : Int), .ref pa])
      obtain ⟨e6, g7, z7⟩ := push_item nDa g eD hz gy (ItemV.mk (c := c0) (SqT.of upd_same) (gy.tp hu'))
      exact ⟨Da, zs, _, rfl, rfl, e6, hsz, _, _, _, _, _, _, _, rfl, g7, upd_same, by rw [em, Nat.mul_one]; exact z7⟩
  · obtain ⟨y2, y3, y4, y5, y6, y7, zs, rfl, g, eD, hz⟩ := hP
    rw [List.take_of_length_le (by omega), ← preL_map] at hz
    refine ⟨.ref Da, rfl, Da, zs, preL b, n, rfl, SqL.of eD, hz, fun q0 hq0 => ?_, ?_, g.tabs hT, fun u H' g' hu => q u H' (g.trans g') hu⟩
    · rw [preL_map] at hq0
      obtain ⟨y, hy, rfl⟩ := List.mem_map.mp hq0
      have := dp_mem hy
      have h2 := (nd_mp y.2 n (hg.mem hy).good).2
      exact ⟨(hg.mem hy).mp, by show dp (mp y.2).2 ≤ D; omega⟩
    · rw [preL_map, List.length_map]
      exact hg.len
theorem ok_law_form (Df : DefN K mg "_law_form" sLawForm ["_law_plan_here"]) (X : Txt mg) {L : Nat} (hL : 21 ≤ L) (cR : ∀ D, C8.Cal P w K mg base (D + 1) "_law_raise" (spLawRaise (nT T') K D) []) (cJ : ∀ D, D ≤ 20 → C8.Cal P w K mg base L "_law_joined" (spItems T' K D) []) :
    ∀ D, D ≤ 20 → C8.Cal P w K mg base (L + D) "_law_form" (spPlain T' K D) []
  | 0, _ => calFalse Df fun vs H Q E h => by
      obtain ⟨v, b, n, _, _, _, hd, _⟩ := h
      omega
  | D + 1, hD => ok_law_form1 (L := L + D) Df X (by omega) (by omega) (cR D) (calUp (cJ D (by omega)) (by omega)) (ok_law_form Df X hL cR cJ D (by omega))
end
end G6

set_option autoImplicit false
set_option Elab.async false
set_option linter.all false
set_option maxRecDepth 100000
set_option maxHeartbeats 4000000
/-! The law's scaled plans, the shared count. -/
namespace G6
open PySem PySem.Spec PyProof.Rows L2 NdefX LamX
section
variable {P : Program} {w : World} {K : PySem.W.Frag} {mg : Str → Option Value} {base : Heap} {T : List NdefX.NTab}
def spScaled (T : List NdefX.NTab) (K : PySem.W.Frag) : Sp := fun vs H Q _ => ∃ (v : V) (b : Pl) (k : Nat), vs = [v, .int (k : Int)] ∧ PlanV K H v b ∧ b.length ≤ 4000 ∧ k < 2 ^ 64 ∧ ∀ (u : V) (H' : Hp), Gr T none H H' → PlanV K H' u (mulL b k) → Q u H'
theorem scLawScaled : FnScope ["_law_plan_here", "_law_k", "_law_count", "_law_part_here"] ["_law_plan_here", "_law_k"] (C8.fnScope sLawScaled) := C8.fnScope_by (by decide +kernel)
theorem ok_scaled (Df : DefN K mg "_law_scaled" sLawScaled ["_law_plan_here", "_law_k"]) (X : Txt mg) : C8.Cal P w K mg base 1 "_law_scaled" (spScaled T K) [] := by
  refine mkCal Df scLawScaled (fun vs H Q E h => ?_) (fun f cdv A outer s H vs Q E hr h => ?_)
  · obtain ⟨v, b, k, rfl, _⟩ := h; rfl
  obtain ⟨v, b, k, rfl, hv, hbl, hk, q⟩ := h
  obtain ⟨a, xs, rfl, hS, hI⟩ := hv.inv
  refine ⟨_, pss_one (ps_ret (pe_tupleOf (by rfl) X.tuple
      (pe_lc (own := [("_law_count", 2), ("_law_part_here", 3)]) (g := gTup K 2 (gCons (gName 2) (gCons (gName 3) gNil))) (tt := tYes) rfl scLawScaled.nd (pi_tup (pv 0)) (blkOk_by (N := ["_law_plan_here", "_law_k", "_law_count", "_law_part_here"]) (sc := C8.fnScope sLawScaled) (by decide +kernel))
        (fun _ _ _ _ _ => pg_tup rfl (pgs_cons (pg_name (i := 2) scLawScaled.nd rfl (Or.inl rfl)) (pgs_cons (pg_name (i := 3) scLawScaled.nd rfl (Or.inl rfl)) pgs_nil))) (fun _ _ _ _ _ => pts_nil)
        (fun _ _ _ _ _ => pe_tup (pa_cons (pe_op op_mul (pv 2) (pv 1)) (pa_cons (pv 3) pa_nil)))))), ?_⟩
  have hxl : xs.length = b.length := hI.len
  refine ⟨.ref a, rfl, a, rfl, ⟨xs, hS⟩, fun D nD => lc_it walk_tup (fun i H3 => Gr T none H H3 ∧ ∃ zs, H3 D = some (.lst zs) ∧ ItemsV K H3 zs ((b.take i).map fun q => (q.1 * k, q.2))) ⟨gr_new nD, [], upd_same, .nil⟩ (fun _ _ _ hP => hP.1.sqt0 hS) (fun i x H3 H4 hi hP hY => ?_) (fun H3 hP => ?_)⟩
  · obtain ⟨g, zs, e, hz⟩ := hP
    obtain ⟨rfl, hx⟩ := hY
    have hib : i < b.length := by omega
    obtain ⟨x', hx', ht⟩ := hI.get (List.getElem?_eq_getElem hib)
    rw [hx] at hx'
    cases hx'
    rw [take_snoc _ (List.getElem?_eq_getElem hib)]
    have hzl : zs.length < sizeLine := by
      have h1 := hz.len
      rw [List.length_map, List.length_take] at h1
      show _ < 2 ^ 24
      omega
    generalize b[i] = q0 at ht ⊢
    obtain ⟨ia, u, rfl, hS2, hu⟩ := ht.inv
    refine ⟨ia, _, rfl, g.sqt0 hS2, rfl, _, _, rfl, _, _, rfl, rfl, rfl, .int (q0.1 : Int), rfl, .int (k : Int), rfl, (q0.1 : Int), (k : Int), rfl, rfl, .inr ⟨by omega, by omega⟩, u, rfl, by show 2 ≤ sizeLine; decide, fun t1 n1 => ?_⟩
    have gx := gr_new (T := T) (t := none) n1 (o := .tup [.int ((q0.1 : Int) * (k : Int)), u])
    have z2 : (((q0.1 * k : Nat)) : Int) = (q0.1 : Int) * (k : Int) := by push_cast; rfl
    obtain ⟨e6, g7, z7⟩ := push_item nD g e hz gx (ItemV.mk (c := q0.1 * k) (p := q0.2) (by rw [z2]; exact SqT.of upd_same) (gx.tp (g.tp hu)))
    exact ⟨zs, e6, hzl, g7, _, upd_same, z7⟩
  · obtain ⟨g, zs, e, hz⟩ := hP
    rw [List.take_of_length_le (by omega)] at hz
    refine .inl ⟨D, zs, rfl, SqL.of e, fun pt npt => ?_⟩
    have g4 : Gr T none H3 (upd H3 pt (.tup zs)) := gr_new npt
    exact q _ _ (g.trans g4) (PlanV.mk (SqT.of upd_same) (g4.tpAll hz))
def spShared (K : PySem.W.Frag) : Sp := fun vs H Q _ => ∃ (v : V) (b : Pl), vs = [v] ∧ PlanV K H v b ∧ (∀ q ∈ b, q.1 < 2 ^ 64) ∧ Q (.int (gcdL b : Int)) H
theorem scLawShared : FnScope ["_law_form_here", "_law_found", "_law_count", "_law_part_here", "_law_turn", "_law_rest"] ["_law_form_here"] (C8.fnScope sLawShared) := C8.fnScope_by (by decide +kernel)
theorem ok_shared (Df : DefN K mg "_law_shared" sLawShared ["_law_form_here"]) (X : Txt mg) : C8.Cal P w K mg base 1 "_law_shared" (spShared K) [] := by
  refine mkCal Df scLawShared (fun vs H Q E h => ?_) (fun f cdv A outer s H vs Q E hr h => ?_)
  · obtain ⟨v, b, rfl, _⟩ := h; rfl
  obtain ⟨v, b, rfl, hv, hb, q⟩ := h
  obtain ⟨a, xs, rfl, hS, hI⟩ := hv.inv
  refine ⟨_, pss_cons (ps_set (i := 1) scLawShared.nd rfl (.inl rfl) pe_int)
    (pss_cons (ps_for PassesOwn.never rfl (pi_tup (pv 0)) (pg_tup rfl (pgs_cons (pg_name (i := 2) scLawShared.nd rfl (Or.inl rfl)) (pgs_cons (pg_name (i := 3) scLawShared.nd rfl (Or.inl rfl)) pgs_nil)))
      (pss_one (ps_for PassesOwn.never rfl (pi_range1 (by rfl) X.range (pa_cons pe_int pa_nil)) (pg_name (i := 4) scLawShared.nd rfl (Or.inl rfl))
        (pss_cons (ps_if (pt_cmpR op_eq (pv 2) pe_int (nomark _)) (pss_one ps_break) pss_nil)
        (pss_cons (ps_set (i := 5) scLawShared.nd rfl (.inl rfl) (pe_op op_sub (pv 1) (pe_op op_mul (pe_op op_fdivW (pv 1) (pv 2)) (pv 2))))
        (pss_cons (ps_set (i := 1) scLawShared.nd rfl (.inl rfl) (pv 2))
        (pss_one (ps_set (i := 2) scLawShared.nd rfl (.inl rfl) (pv 5)))))))))
    (pss_one (ps_ret (pv 1)))), ?_⟩
  have hxl : xs.length = b.length := hI.len
  refine ⟨.ref a, rfl, a, rfl, ⟨xs, hS⟩, for_it walk_tup (fun i σ H3 => H3 = H ∧ ∃ y2 y3 y4 y5, σ = [some (.ref a), some (.int (gcdL (b.take i) : Int)), y2, y3, y4, y5]) ⟨rfl, none, none, none, none, rfl⟩ (fun i σ H3 _ hP => hP.1 ▸ hS) (fun i x σ H3 H4 hi hP hY => ?_) (fun σ H3 hP => ?_)⟩
  · obtain ⟨rfl, y2, y3, y4, y5, rfl⟩ := hP
    obtain ⟨rfl, hx⟩ := hY
    have hib : i < b.length := by omega
    obtain ⟨x', hx', ht⟩ := hI.get (List.getElem?_eq_getElem hib)
    rw [hx] at hx'
    cases hx'
    have hcnt := hb _ (List.getElem_mem hib)
    rw [gcd_take _ (List.getElem?_eq_getElem hib)]
    generalize b[i] = q0 at ht hcnt ⊢
    generalize gcdL (b.take i) = g0
    obtain ⟨ia, u, rfl, hS2, hu⟩ := ht.inv
    refine ⟨ia, _, rfl, hS2, rfl, _, _, rfl, _, _, rfl, rfl, 400, rfl, by decide, by decide, for_it (n := (400 : Int).toNat) walk_range (fun j σ H5 => H5 = H4 ∧ ∃ (f0 c0 : Nat) (y4 y5 : Option V), σ = [some (.ref a), some (.int (f0 : Int)), some (.int (c0 : Int)), some u, y4, y5] ∧ Eu j f0 c0 ∧ Nat.gcd f0 c0 = Nat.gcd g0 q0.1 ∧ c0 < 2 ^ 64)
      ⟨rfl, g0, q0.1, _, _, rfl, ?_, rfl, hcnt⟩ (fun _ _ _ _ _ => True.intro) (fun j x σ H5 H6 hj hP hY => ?_) (fun σ H5 hP => ?_)⟩
    · exact ⟨.inl rfl, .inl rfl, hcnt⟩
    · obtain ⟨rfl, f0, c0, z4, z5, rfl, hE, hgc, hc0⟩ := hP
      obtain ⟨rfl, rfl⟩ := hY
      refine ⟨.int (c0 : Int), rfl, rfl, decide (c0 = 0), congrArg V.bl (decide_eq_decide.mpr ⟨fun z => by have := V.int.inj z; omega, fun z => by rw [z]; rfl⟩), ?_⟩
      by_cases h0 : c0 = 0
      · rw [decide_eq_true h0]
        subst h0
        rw [Nat.gcd_zero_right] at hgc
        exact iteT ⟨rfl, _, _, _, _, by rw [← hgc]; rfl⟩
      · rw [decide_eq_false h0]
        have hlog : ((c0 : Int)).natAbs.log2 < 9000 := by
          rw [Int.natAbs_natCast]
          have : c0.log2 < 64 := (Nat.log2_lt (by omega)).mpr hc0
          omega
        refine iteF ⟨.int (f0 : Int), rfl, .int (f0 : Int), rfl, .int (c0 : Int), rfl, (f0 : Int), (c0 : Int), rfl, rfl, ⟨by omega, hlog⟩, .int (c0 : Int), rfl, _, (c0 : Int), rfl, rfl, .inr ⟨by omega, by omega⟩, (f0 : Int), _, rfl, rfl, ?_⟩
        have ez : (f0 : Int) - (f0 : Int) / (c0 : Int) * (c0 : Int) = ((f0 % c0 : Nat) : Int) := by
          have z3 : ((f0 % c0 : Nat) : Int) = (f0 : Int) % (c0 : Int) := by push_cast; rfl
          rw [z3, Int.emod_def, Int.mul_comm]
        refine ⟨.int (c0 : Int), rfl, .int ((f0 : Int) - (f0 : Int) / (c0 : Int) * (c0 : Int)), rfl, rfl, c0, f0 % c0, _, _, by rw [← ez]; rfl, hE.next h0, ?_, Nat.lt_trans (Nat.mod_lt _ (by omega)) hc0⟩
        rw [← hgc, Nat.gcd_comm c0 (f0 % c0), ← Nat.gcd_rec, Nat.gcd_comm]
    · obtain ⟨rfl, f0, c0, z4, z5, rfl, hE, hgc, hc0⟩ := hP
      have h0 : c0 = 0 := hE.end
      subst h0
      rw [Nat.gcd_zero_right] at hgc
      exact ⟨rfl, _, _, _, _, by rw [← hgc]⟩
  · obtain ⟨rfl, y2, y3, y4, y5, rfl⟩ := hP
    rw [List.take_of_length_le (by omega)]
    exact ⟨_, rfl, q⟩
end
end G6

set_option autoImplicit false
set_option Elab.async false
set_option linter.all false
set_option maxRecDepth 100000
set_option maxHeartbeats 4000000
/-! The law's hidden plans. -/
namespace G6
open PySem PySem.Spec PyProof.Rows L2 NdefX LamX
section
variable {P : Program} {w : World} {K : PySem.W.Frag} {mg : Str → Option Value} {base : Heap} {T : List NdefX.NTab}
theorem push_ins {tt : Option Addr} {H H6 : Hp} {Da : Addr} {zs : List V} {l : Pl} {v : V} {q : Nat × Pt} (nDa : H Da = none) (g : Gr T tt H H6) (e6 : H6 Da = some (.lst zs)) (hz : ItemsV K H6 zs l) (it : ItemV K H6 v q) (i : Nat) :
    Gr T tt H (upd H6 Da (.lst (zs.take i ++ [v] ++ zs.drop i))) ∧ ItemsV K (upd H6 Da (.lst (zs.take i ++ [v] ++ zs.drop i))) (zs.take i ++ [v] ++ zs.drop i) (l.take i ++ [q] ++ l.drop i) := by
  have keep : ∀ a ys, SqT K H6 a ys → SqT K (upd H6 Da (.lst (zs.take i ++ [v] ++ zs.drop i))) a ys := fun a ys z => sqt_upd e6 z
  refine ⟨g.mut nDa e6 (fun _ z => by cases z) (fun _ _ z => by cases z), ?_⟩
  have hz' : TpAll K (upd H6 Da (.lst (zs.take i ++ [v] ++ zs.drop i))) zs (l.map itemD) := TpAll.ext keep _ _ hz
  have hi' : ItemV K (upd H6 Da (.lst (zs.take i ++ [v] ++ zs.drop i))) v q := Tp.ext keep _ _ it
  unfold ItemsV
  rw [List.map_append, List.map_append, List.map_take, List.map_drop]
  exact TpAll.append (TpAll.append (hz'.take i) (.cons hi' .nil)) (hz'.drop i)
/-- a plan that may be hidden -/
structure HidOk (n : Nat) (b : Pl) : Prop where
  good : GoodL n b
  sz : szL b < 2 ^ 64
  nd : 2 * 2 ^ dpL b * ndL b ≤ 4000
  dp : dpL b ≤ 9
theorem HidOk.fit {n : Nat} {b : Pl} (h : HidOk n b) : FitL n b := ⟨h.good, by
  have h1 := h.nd
  have h2 : 1 ≤ 2 ^ dpL b := Nat.one_le_two_pow
  have h3 : 1 * ndL b ≤ 2 * 2 ^ dpL b * ndL b := Nat.mul_le_mul_right _ (by omega)
  omega, h.sz⟩
theorem HidOk.body {n : Nat} {b : Pl} (h : HidOk n b) {q : Nat × Pt} (hq : q ∈ b) {w : Bool} {d : List Nat} {bb : Pl} (e : q.2 = .box w d bb) : HidOk (if w = true then n + 1 else n) bb := by
  have h1 := (h.fit.mem hq)
  rw [e] at h1
  have h2 := ndL_mem hq
  have h3 := dp_mem hq
  rw [e, nd_box] at h2
  rw [e, dp_box] at h3
  refine ⟨h1.body.2.good, h1.body.2.sz, ?_, by have := h.dp; omega⟩
  have h4 : 2 ^ dpL bb ≤ 2 ^ dpL b := Nat.pow_le_pow_right (by omega) (by omega)
  have h5 : 2 * 2 ^ dpL bb * ndL bb ≤ 2 * 2 ^ dpL b * ndL b := Nat.mul_le_mul (Nat.mul_le_mul_left _ h4) (by omega)
  exact Nat.le_trans h5 h.nd
theorem hid_fit {n m : Nat} {b b' : Pl} (h : HidOk n b) (hh : HidL (HidP m) b [] b') : FitL n b' ∧ dpL b' ≤ 18 := by
  obtain ⟨h1, h2, h3, h4, h5, h6⟩ := hid_all hh h.good
  have := h.nd
  have := h.dp
  exact ⟨⟨h1, by omega, by rw [h3]; exact h.sz⟩, by omega⟩
def spHid (T : List NdefX.NTab) (K : PySem.W.Frag) (D : Nat) : Sp := fun vs H Q _ => ∃ (t sc : Addr) (v : V) (b : Pl) (n : Nat), vs = [.ref t, v] ∧ TapeOk H t sc ∧ PlanV K H v b ∧ HidOk n b ∧ dpL b < D ∧
  ∀ (b' : Pl) (u : V) (H' : Hp), Gr T (some t) H H' → TapeOk H' t sc → PlanV K H' u b' → HidL (HidP (D - 1)) b [] b' → Q u H'
theorem scLawHidden : FnScope ["_law_tape_here", "_law_plan_here", "_law_items", "_law_count", "_law_part_here", "_law_turn", "_law_inner"] ["_law_tape_here", "_law_plan_here"] (C8.fnScope sLawHidden) := C8.fnScope_by (by decide +kernel)
theorem hid_body {n0 n : Nat} {w : Bool} {d : List Nat} {b' : Pl} {p : Pt} {b : Pl} {c0 : Nat} (h : HidOk n b) (hm : (c0, p) ∈ b) (hp : HidP n0 p (.box w d b')) : FitL (if w = true then n + 1 else n) b' ∧ dpL b' ≤ 18 := by
  cases p with
  | name x => unfold HidP at hp; cases hp
  | got x => unfold HidP at hp; cases hp
  | box w2 d2 b2 =>
    cases n0 with
    | zero => exact hp.elim
    | succ k =>
      obtain ⟨b3, h1, h2⟩ := hp
      cases h2
      exact hid_fit (h.body hm rfl) h1
theorem ok_hidden1 (Df : DefN K mg "_law_hidden" sLawHidden ["_law_tape_here", "_law_plan_here"]) (X : Txt mg) {n0 L : Nat} (hL : 21 ≤ L) (cK : C8.Cal P w K mg base 1 "_law_pick" (spPick T K) []) (cR : C8.Cal P w K mg base 21 "_law_raise" (spLawRaise T K 20) []) (cH : C8.Cal P w K mg base L "_law_hidden" (spHid T K n0) []) :
    C8.Cal P w K mg base (L + 1) "_law_hidden" (spHid T K (n0 + 1)) [] := by
  refine mkCal Df scLawHidden (fun vs H Q E h => ?_) (fun f cdv A outer s H vs Q E hr h => ?_)
  · obtain ⟨t, sc, v, b, n, rfl, _⟩ := h; rfl
  obtain ⟨t, sc, v, b, n, rfl, hT, hv, hg, hd, q⟩ := h
  obtain ⟨a, xs, rfl, hS, hI⟩ := hv.inv
  refine ⟨_, pss_cons (ps_set (i := 2) scLawHidden.nd rfl (.inl rfl) (pe_lst pa_nil))
    (pss_cons (ps_for PassesOwn.never rfl (pi_tup (pv 1)) (pg_tup rfl (pgs_cons (pg_name (i := 3) scLawHidden.nd rfl (Or.inl rfl)) (pgs_cons (pg_name (i := 4) scLawHidden.nd rfl (Or.inl rfl)) pgs_nil)))
      (pss_cons (ps_if (pt_cmpR op_eq (pe_callB call_len_seq (by rfl) X.len PySem.boot_len (pa_cons (pv 4) pa_nil)) pe_int (nomark _))
        (pss_one (ps_set (i := 4) scLawHidden.nd rfl (.inl rfl) (pe_tup (pa_cons (pe_ix ix_tup (pv 4) pe_int (fun _ _ => rfl)) (pa_cons (pe_ix ix_tup (pv 4) pe_int (fun _ _ => rfl)) (pa_cons (C8.pe_c cH hr (Nat.le_refl _) (by rfl) (pa_cons (pv 0) (pa_cons (pe_ix ix_tup (pv 4) pe_int (fun _ _ => rfl)) pa_nil))) pa_nil)))))) pss_nil)
      (pss_cons (ps_set (i := 5) scLawHidden.nd rfl (.inl rfl) (C8.pe_c cK hr (by omega) (by rfl) (pa_cons (pv 0) (pa_cons pe_int pa_nil))))
      (pss_cons (ps_if (PW.pt (pw_and (pt_cmpR op_eq (pv 5) pe_int (nomark _)) (pw_and1 (pt_cmpR op_gt (pv 3) pe_int (nomark _)))))
        (pss_cons (ps_expr (pe_bm PySem.F.plainAttrs_list PySem.F.slot_list_insert PySem.F.type_list_insert mt_insert (pv 2) (pa_cons (C8.pe_c cK hr (by omega) (by rfl) (pa_cons (pv 0) (pa_cons (pe_op op_add (pe_callB call_len_seq (by rfl) X.len PySem.boot_len (pa_cons (pv 2) pa_nil)) pe_int) pa_nil))) (pa_cons (pe_tup (pa_cons pe_int (pa_cons (pv 4) pa_nil))) pa_nil))))
          (pss_one (ps_set (i := 3) scLawHidden.nd rfl (.inl rfl) (pe_op op_sub (pv 3) pe_int)))) pss_nil)
      (pss_cons (ps_if (PW.pt (pw_and (pt_cmpR op_gt (pv 5) pe_int (nomark _)) (pw_and (pt_cmpR op_gt (pv 3) pe_int (nomark _)) (pw_and1 (pt_cmpR op_eq (pe_ix ix_tup (pv 4) pe_int (fun _ _ => rfl)) pe_str (nomark _))))))
        (pss_cons (ps_set (i := 6) scLawHidden.nd rfl (.inl rfl) (pe_tup (pa_cons pe_str (pa_cons (pe_ix ix_tup (pv 4) pe_int (fun _ _ => rfl)) (pa_cons (C8.pe_c cR hr hL (by rfl) (pa_cons (pe_ix ix_tup (pv 4) pe_int (fun _ _ => rfl)) (pa_cons pe_int (pa_cons pe_int pa_nil)))) pa_nil)))))
        (pss_cons (ps_set (i := 4) scLawHidden.nd rfl (.inl rfl) (pe_tup (pa_cons pe_str (pa_cons (pe_ix ix_tup (pv 4) pe_int (fun _ _ => rfl)) (pa_cons (pe_op op_catA (pe_ix ix_tup (pv 4) pe_int (fun _ _ => rfl)) (pe_tup (pa_cons (pe_tup (pa_cons (pe_op op_sub (pv 3) pe_int) (pa_cons (pv 6) pa_nil))) pa_nil))) pa_nil)))))
        (pss_one (ps_set (i := 3) scLawHidden.nd rfl (.inl rfl) pe_int)))) pss_nil)
      (pss_one (ps_expr (pe_bm PySem.F.plainAttrs_list PySem.F.slot_list_insert PySem.F.type_list_insert mt_insert (pv 2) (pa_cons (C8.pe_c cK hr (by omega) (by rfl) (pa_cons (pv 0) (pa_cons (pe_op op_add (pe_callB call_len_seq (by rfl) X.len PySem.boot_len (pa_cons (pv 2) pa_nil)) pe_int) pa_nil))) (pa_cons (pe_tup (pa_cons (pv 3) (pa_cons (pv 4) pa_nil))) pa_nil))))))))))
    (pss_one (ps_ret (pe_tupleOf (by rfl) X.tuple (pv 2))))), ?_⟩
  have hxl : xs.length = b.length := hI.len
  have hbl := hg.fit.len
  refine ⟨Nat.zero_le _, fun Da nDa => ⟨.ref a, rfl, a, rfl, ⟨xs, (gr_new (T := T) (t := none) nDa).sqt0 hS⟩, for_it walk_tup (fun i σ H3 => ∃ y3 y4 y5 y6 zs acc, σ = [some (.ref t), some (.ref a), some (.ref Da), y3, y4, y5, y6] ∧ Gr T (some t) H H3 ∧ TapeOk H3 t sc ∧ H3 Da = some (.lst zs) ∧ ItemsV K H3 zs acc ∧ acc.length ≤ 2 * i ∧
      ∀ out, HidL (HidP n0) (b.drop i) acc out → HidL (HidP n0) b [] out)
    ⟨none, none, none, none, [], [], rfl, gr_new nDa, hT.gr (gr_new (T := T) nDa), upd_same, .nil, Nat.le_refl _, fun out h => h⟩ (fun i σ H3 _ ⟨_, _, _, _, _, _, _, g, _⟩ => g.sqt hT.isl hS) (fun i x σ H3 H4 hi hP hY => ?_) (fun σ H3 hP => ?_)⟩⟩
  · obtain ⟨y3, y4, y5, y6, zs, acc, rfl, g, ht, eD, hz, hal, hh⟩ := hP
    obtain ⟨rfl, hx⟩ := hY
    have hib : i < b.length := by omega
    obtain ⟨x', hx', hti⟩ := hI.get (List.getElem?_eq_getElem hib)
    rw [hx] at hx'
    cases hx'
    have hmem := List.getElem_mem hib
    have hdm := dp_mem hmem
    have hdrop : b.drop i = b[i] :: b.drop (i + 1) := List.drop_eq_getElem_cons hib
    have hpos := hg.fit.pos hmem
    obtain ⟨hDt, hDs⟩ := hT.apart nDa
    rw [hdrop] at hh
    generalize b[i] = q0 at hti hmem hdm hh hpos
    obtain ⟨c0, p⟩ := q0
    obtain ⟨ia, u, rfl, hS2, hu⟩ := hti.inv
    have hu4 : PartV K H4 u p := g.tpT hT.isl hu
    have hpos : 1 ≤ c0 := hpos
    have hdm : dp p ≤ dpL b := hdm
    have hzl := hz.len
    obtain ⟨pa, pxs, l, rfl, hpS, hw, hl, hlab, hlen⟩ := part_at hu4
    refine ⟨ia, _, rfl, g.sqt hT.isl hS2, rfl, _, _, rfl, _, _, rfl, rfl, .ref pa, rfl, pa, pxs, rfl, .inr hpS, rfl, decide (pxs.length = 3), dec_len rfl, ?_⟩
    rcases hlen with ⟨h3, ⟨bw, bd, bb, hp⟩, u0, hu0, hpl⟩ | ⟨h2, hb0, hnb⟩
    case' inl =>
      subst hp
      rw [decide_eq_true h3]
      rw [dp_box] at hdm
      have hob := hg.body hmem rfl
      refine iteT (rd_ix (i := 4) (k := 0) rfl hpS hw (rd_ix (i := 4) (k := 1) rfl hpS hl ⟨.ref t, rfl, rd_ix (i := 4) (k := 2) rfl hpS hu0 ⟨t, sc, u0, bb, _, rfl, ht, hpl, hob, by omega, fun b' u' H5 g5 ht5 hu5 hhid => ⟨by show 3 ≤ sizeLine; decide, fun tn ntn => ?_⟩⟩⟩))
      have gx := gr_new (T := T) (t := none) ntn (o := .tup [.str (wordS (.box bw bd bb)), l, u'])
      have gA := g.trans (g5.trans (gx.weak (t := some t)))
      have htA := ht5.gr gx
      have eDA := gx.lst (gr_lstT g5 hDt eD)
      have hzA : ItemsV K _ zs acc := gx.tpAll (g5.tpAllT ht.isl hz)
      have hl2 : l = .str (S bd) := (hlab H).str_inv
      have huA : PartV K (upd H5 tn (.tup [.str (wordS (.box bw bd bb)), l, u'])) (.ref tn) (.box bw bd b') := PartV.box_mk (by rw [hl2]; exact SqT.of upd_same) (gx.tp hu5)
      have hpA : HidP n0 (.box bw bd bb) (.box bw bd b') := by
        cases n0 with
        | zero => omega
        | succ k => exact ⟨b', hhid, rfl⟩
      generalize upd H5 tn (.tup [.str (wordS (.box bw bd bb)), l, u']) = HA at gA htA eDA hzA huA ⊢
      generalize tn = pA at huA ⊢
      generalize Pt.box bw bd b' = p' at huA hpA
      generalize Pt.box bw bd bb = p0 at hpA hmem hh
    case' inr =>
      rw [decide_eq_false (by omega)]
      refine iteF ?_
      have gA := g
      have htA := ht
      have eDA := eD
      have hzA := hz
      have huA := hu4
      obtain ⟨p', hpp, hpA⟩ : ∃ p', p = p' ∧ HidP n0 p p' := ⟨p, rfl, by
        cases p with
        | name x => cases n0 <;> exact rfl
        | got x => cases n0 <;> exact rfl
        | box w d b => exact absurd rfl (hnb w d b)⟩
      rw [hpp] at huA
      clear hpp
      generalize H4 = HA at gA htA eDA hzA huA ⊢
      generalize pa = pA at huA ⊢
      generalize p = p0 at hpA hmem hh
    all_goals
      obtain ⟨wa, wxs, wl, ew, hwS, hww, hwl, hwlab, hwlen⟩ := part_at huA
      cases ew
      refine ⟨.ref t, rfl, t, sc, 4, rfl, htA, by omega, by omega, fun k H6 g6 ht6 hk => ?_⟩
      have g06 := gA.trans g6
      have eD6 := gr_lstT g6 hDt eDA
      have hz6 : ItemsV K H6 zs acc := g6.tpAllT htA.isl hzA
      have hu6 : PartV K H6 (.ref pA) p' := g6.tpT htA.isl huA
      have hk1 : V.bl (decide (V.int (k : Int) = V.int 1)) = V.bl (decide (k = 1)) := congrArg V.bl (decide_eq_decide.mpr ⟨fun z => by have := V.int.inj z; omega, fun z => by rw [z]; rfl⟩)
      have hkg : V.bl (decide ((1 : Int) < (k : Int))) = V.bl (decide (1 < k)) := congrArg V.bl (decide_eq_decide.mpr ⟨fun z => by omega, fun z => by omega⟩)
      have hcg : V.bl (decide ((1 : Int) < (c0 : Int))) = V.bl (decide (1 < c0)) := congrArg V.bl (decide_eq_decide.mpr ⟨fun z => by omega, fun z => by omega⟩)
      refine ⟨.int (k : Int), rfl, rfl, decide (k = 1), hk1, ?_⟩
      by_cases k1 : k = 1
      · subst k1
        rw [decide_eq_true rfl]
        refine iteT ⟨.int (c0 : Int), rfl, (c0 : Int), 1, rfl, rfl, decide (1 < c0), hcg, ?_⟩
        by_cases hc : 1 < c0
        · rw [decide_eq_true hc]
          refine iteT ?_
          obtain ⟨c, rfl⟩ : ∃ c, c0 = c + 2 := ⟨c0 - 2, by omega⟩
          have hzl6 : (zs).length = (acc).length := ItemsV.len hz6
          have esz : ((zs).length : Int) + 1 = (((zs).length + 1 : Nat) : Int) := by push_cast; rfl
          refine ⟨.ref Da, rfl, .inl ⟨rfl, _, SqL.of eD6⟩, .ref t, rfl, .ref Da, rfl, Da, _, rfl, .inl (SqL.of eD6), _, 1, rfl, rfl, t, sc, (zs).length + 1, by rw [← esz]; rfl, ht6, by omega, by omega, fun i9 H9 g9 ht9 hi9 => ⟨.ref pA, rfl, by show 2 ≤ sizeLine; decide, fun tp ntp => ?_⟩⟩
          have gq := gr_new (T := T) (t := none) ntp (o := .tup [.int (1 : Int), .ref pA])
          have eD9 := gq.lst (gr_lstT g9 hDt eD6)
          have hz9 : ItemsV K _ (zs) (acc) := gq.tpAll (g9.tpAllT (TapeOk.isl ht6) hz6)
          have hu9 : PartV K _ (.ref pA) p' := gq.tp (g9.tpT (TapeOk.isl ht6) hu6)
          have g90 := (Gr.trans g06 g9).trans (gq.weak (t := some t))
          obtain ⟨gB, hzB⟩ := push_ins nDa g90 eD9 hz9 (ItemV.mk (c := 1) (p := p') (SqT.of upd_same) hu9) i9
          have hzl9 : (zs).length < sizeLine := by show _ < 2 ^ 24; omega
          refine ⟨Da, _, (i9 : Int), .ref tp, rfl, rfl, eD9, hzl9, by omega, by omega, ?_⟩
          have htB := (ht9.gr gq).other (o := .lst ((zs).take i9 ++ [.ref tp] ++ (zs).drop i9)) hDt hDs
          have huB : PartV K (upd (upd H9 tp (.tup [.int (1 : Int), .ref pA])) Da (.lst ((zs).take i9 ++ [.ref tp] ++ (zs).drop i9))) (.ref pA) p' := Tp.ext (fun a ys z => sqt_upd eD9 z) _ _ hu9
          rw [Int.toNat_natCast]
          have eDB : upd (upd H9 tp (.tup [.int (1 : Int), .ref pA])) Da (.lst ((zs).take i9 ++ [.ref tp] ++ (zs).drop i9)) Da = some (.lst ((zs).take i9 ++ [V.ref tp] ++ (zs).drop i9)) := upd_same
          generalize upd (upd H9 tp (.tup [.int (1 : Int), .ref pA])) Da (.lst ((zs).take i9 ++ [V.ref tp] ++ (zs).drop i9)) = HB at gB hzB htB huB eDB ⊢
          have ez : ((c + 2 : Nat) : Int) - 1 = ((c + 1 : Nat) : Int) := by push_cast; omega
          refine ⟨.int ((c + 2 : Nat) : Int), rfl, ((c + 2 : Nat) : Int), 1, rfl, rfl, ?_⟩
          refine ⟨.int ((1 : Nat) : Int), rfl, ((1 : Nat) : Int), 1, rfl, rfl, false, congrArg V.bl (decide_eq_false (by omega)), iteF (iteF ?_)⟩
          have hzl7 : (zs.take i9 ++ [V.ref tp] ++ zs.drop i9).length = (acc.take i9 ++ [(1, p')] ++ acc.drop i9).length := ItemsV.len hzB
          have hal7 : (acc.take i9 ++ [(1, p')] ++ acc.drop i9).length ≤ 2 * i + 1 := by first | omega | (simp only [List.length_append, List.length_take, List.length_drop, List.length_singleton]; omega)
          have esz2 : ((zs.take i9 ++ [V.ref tp] ++ zs.drop i9).length : Int) + 1 = (((zs.take i9 ++ [V.ref tp] ++ zs.drop i9).length + 1 : Nat) : Int) := by push_cast; rfl
          refine ⟨.ref Da, rfl, .inl ⟨rfl, _, SqL.of eDB⟩, .ref t, rfl, .ref Da, rfl, Da, _, rfl, .inl (SqL.of eDB), _, 1, rfl, rfl, t, sc, (zs.take i9 ++ [V.ref tp] ++ zs.drop i9).length + 1, by rw [← esz2]; rfl, htB, by omega, by omega, fun j9 J9 f9 hj9t hj9 => ⟨.int (((c + 2 : Nat) : Int) - 1), rfl, .ref pA, rfl, by show 2 ≤ sizeLine; decide, fun tq ntq => ?_⟩⟩
          have fq := gr_new (T := T) (t := none) ntq (o := .tup [.int (((c + 2 : Nat) : Int) - 1), .ref pA])
          have fD9 := fq.lst (gr_lstT f9 hDt eDB)
          have fz9 : ItemsV K _ (zs.take i9 ++ [V.ref tp] ++ zs.drop i9) (acc.take i9 ++ [(1, p')] ++ acc.drop i9) := fq.tpAll (f9.tpAllT (TapeOk.isl htB) hzB)
          have fu9 : PartV K _ (.ref pA) (p') := fq.tp (f9.tpT (TapeOk.isl htB) huB)
          have f90 := (Gr.trans gB f9).trans (fq.weak (t := some t))
          have hj9' : j9 ≤ (acc.take i9 ++ [(1, p')] ++ acc.drop i9).length := by omega
          obtain ⟨fB, fzB⟩ := push_ins nDa f90 fD9 fz9 (ItemV.mk (c := c + 1) (p := p') (by rw [← ez]; exact SqT.of upd_same) fu9) j9
          have fzl : (zs.take i9 ++ [V.ref tp] ++ zs.drop i9).length < sizeLine := by show _ < 2 ^ 24; omega
          refine ⟨Da, _, (j9 : Int), .ref tq, rfl, rfl, fD9, fzl, by omega, by omega, ?_⟩
          have ftB := (hj9t.gr fq).other (o := .lst ((zs.take i9 ++ [V.ref tp] ++ zs.drop i9).take j9 ++ [.ref tq] ++ (zs.take i9 ++ [V.ref tp] ++ zs.drop i9).drop j9)) hDt hDs
          rw [Int.toNat_natCast]
          refine ⟨_, _, _, _, _, _, rfl, fB, ftB, upd_same, fzB, ?_, fun out ho => hh out (HidL.split hpA ⟨i9, by omega, rfl⟩ ⟨j9, hj9', rfl⟩ ho)⟩
          rw [List.length_append, List.length_append, List.length_take, List.length_drop, List.length_singleton]
          omega
        · rw [decide_eq_false hc]
          refine iteF ?_
          refine ⟨.int ((1 : Nat) : Int), rfl, ((1 : Nat) : Int), 1, rfl, rfl, false, congrArg V.bl (decide_eq_false (by omega)), iteF (iteF ?_)⟩
          have hzl7 : (zs).length = (acc).length := ItemsV.len hz6
          have hal7 : (acc).length ≤ 2 * i + 1 := by first | omega | (simp only [List.length_append, List.length_take, List.length_drop, List.length_singleton]; omega)
          have esz2 : ((zs).length : Int) + 1 = (((zs).length + 1 : Nat) : Int) := by push_cast; rfl
          refine ⟨.ref Da, rfl, .inl ⟨rfl, _, SqL.of eD6⟩, .ref t, rfl, .ref Da, rfl, Da, _, rfl, .inl (SqL.of eD6), _, 1, rfl, rfl, t, sc, (zs).length + 1, by rw [← esz2]; rfl, ht6, by omega, by omega, fun j9 J9 f9 hj9t hj9 => ⟨.int (c0 : Int), rfl, .ref pA, rfl, by show 2 ≤ sizeLine; decide, fun tq ntq => ?_⟩⟩
          have fq := gr_new (T := T) (t := none) ntq (o := .tup [.int (c0 : Int), .ref pA])
          have fD9 := fq.lst (gr_lstT f9 hDt eD6)
          have fz9 : ItemsV K _ (zs) (acc) := fq.tpAll (f9.tpAllT (TapeOk.isl ht6) hz6)
          have fu9 : PartV K _ (.ref pA) (p') := fq.tp (f9.tpT (TapeOk.isl ht6) hu6)
          have f90 := (Gr.trans g06 f9).trans (fq.weak (t := some t))
          have hj9' : j9 ≤ (acc).length := by omega
          obtain ⟨fB, fzB⟩ := push_ins nDa f90 fD9 fz9 (ItemV.mk (c := c0) (p := p') (by exact SqT.of upd_same) fu9) j9
          have fzl : (zs).length < sizeLine := by show _ < 2 ^ 24; omega
          refine ⟨Da, _, (j9 : Int), .ref tq, rfl, rfl, fD9, fzl, by omega, by omega, ?_⟩
          have ftB := (hj9t.gr fq).other (o := .lst ((zs).take j9 ++ [.ref tq] ++ (zs).drop j9)) hDt hDs
          rw [Int.toNat_natCast]
          refine ⟨_, _, _, _, _, _, rfl, fB, ftB, upd_same, fzB, ?_, fun out ho => hh out (HidL.plain hpA ⟨j9, hj9', rfl⟩ ho)⟩
          rw [List.length_append, List.length_append, List.length_take, List.length_drop, List.length_singleton]
          omega
      · rw [decide_eq_false k1]
        refine iteF (iteF ⟨.int (k : Int), rfl, (k : Int), 1, rfl, rfl, decide (1 < k), hkg, ?_⟩)
        by_cases hkk : 1 < k
        · rw [decide_eq_true hkk]
          refine iteT ⟨.int (c0 : Int), rfl, (c0 : Int), 1, rfl, rfl, decide (1 < c0), hcg, ?_⟩
          by_cases hc : 1 < c0
          · rw [decide_eq_true hc]
            obtain ⟨c, rfl⟩ : ∃ c, c0 = c + 2 := ⟨c0 - 2, by omega⟩
            by_cases hwt : ∃ d b', p' = .box true d b'
            · obtain ⟨d, b', rfl⟩ := hwt
              obtain ⟨fb, fd⟩ := hid_body hg hmem hpA
              obtain ⟨oa, ou, eo, hoS, hob⟩ := hu6.box_inv
              cases eo
              refine iteT (rd_ixEq (i := 4) (k := 0) rfl hoS rfl true (decide_eq_true rfl) (iteT (rd_ix (i := 4) (k := 1) rfl hoS rfl (rd_ix (i := 4) (k := 2) rfl hoS rfl ⟨ou, b', 1, n + 1, rfl, hob, fb, by omega, fun r H7 g7 hr7 => ⟨by show 3 ≤ sizeLine; decide, fun tn ntn => ?_⟩⟩))))
              have gx := gr_new (T := T) (t := none) ntn (o := .tup [.str "wait", .str (S d), r])
              have hinn : PartV K (upd H7 tn (.tup [.str "wait", .str (S d), r])) (.ref tn) (.box true d (rzL 1 b')) := PartV.box_mk (w := true) (SqT.of upd_same) (gx.tp hr7)
              have g67 := g7.trans gx
              generalize upd H7 tn (.tup [.str "wait", .str (S d), r]) = H8 at hinn g67 ⊢
              obtain ⟨va, vxs, rfl, hvS, hvI⟩ := PlanV.inv hob
              have ez : ((c + 2 : Nat) : Int) - 1 = ((c + 1 : Nat) : Int) := by push_cast; omega
              refine rd_ix (i := 4) (k := 1) rfl (g67.sqt0 hoS) rfl (rd_ix (i := 4) (k := 2) rfl (g67.sqt0 hoS) rfl ⟨.int ((c + 2 : Nat) : Int), rfl, ((c + 2 : Nat) : Int), 1, rfl, rfl, .ref tn, rfl, by show 2 ≤ sizeLine; decide, fun t1 n1 => ⟨by show 1 ≤ sizeLine; decide, fun t2 n2 => ?_⟩⟩)
              have gy := gr_new (T := T) (t := none) n1 (o := .tup [.int (((c + 2 : Nat) : Int) - 1), .ref tn])
              have gz := gr_new (T := T) (t := none) n2 (o := .tup [.ref t1])
              have hit1 : ItemV K (upd (upd H8 t1 (.tup [.int (((c + 2 : Nat) : Int) - 1), .ref tn])) t2 (.tup [.ref t1])) (.ref t1) (c + 1, .box true d (rzL 1 b')) := ItemV.mk (gz.sqt0 (by rw [← ez]; exact SqT.of upd_same)) ((gy.trans gz).tp hinn)
              have g68 := (g67.trans gy).trans gz
              refine catA_any (T := T) (g68.sqt0 hvS) (SqT.of upd_same) (by have h1 : vxs.length = b'.length := hvI.len; have h2 := fb.len; show vxs.length + 1 ≤ 2 ^ 24; omega) fun cc H9 g9 hcc => ⟨by show 3 ≤ sizeLine; decide, fun t3 n3 => ?_⟩
              have gw := gr_new (T := T) (t := none) n3 (o := .tup [.str "wait", .str (S d), .ref cc])
              have hpl9 : PlanV K H9 (.ref cc) (b' ++ [(c + 1, .box true d (rzL 1 b'))]) := PlanV.mk hcc (ItemsV.snoc ((g68.trans g9).tpAll hvI) (g9.tp hit1))
              have g69 := (g68.trans g9).trans gw
              have huZ : PartV K (upd H9 t3 (.tup [.str "wait", .str (S d), .ref cc])) (.ref t3) (.box true d (b' ++ [(c + 1, .box true d (rzL 1 b'))])) := PartV.box_mk (w := true) (SqT.of upd_same) (gw.tp hpl9)
              have gZ := g06.trans (g69.weak (t := some t))
              have htZ := ht6.gr g69
              have eDZ := g69.lst eD6
              have hzZ : ItemsV K _ zs acc := g69.tpAll hz6
              generalize upd H9 t3 (.tup [.str "wait", .str (S d), .ref cc]) = HZ at huZ gZ htZ eDZ hzZ ⊢
              have hzl7 : (zs).length = (acc).length := ItemsV.len hzZ
              have hal7 : (acc).length ≤ 2 * i + 1 := by first | omega | (simp only [List.length_append, List.length_take, List.length_drop, List.length_singleton]; omega)
              have esz2 : ((zs).length : Int) + 1 = (((zs).length + 1 : Nat) : Int) := by push_cast; rfl
              refine ⟨.ref Da, rfl, .inl ⟨rfl, _, SqL.of eDZ⟩, .ref t, rfl, .ref Da, rfl, Da, _, rfl, .inl (SqL.of eDZ), _, 1, rfl, rfl, t, sc, (zs).length + 1, by rw [← esz2]; rfl, htZ, by omega, by omega, fun j9 J9 f9 hj9t hj9 => ⟨.int (1 : Int), rfl, .ref t3, rfl, by show 2 ≤ sizeLine; decide, fun tq ntq => ?_⟩⟩
              have fq := gr_new (T := T) (t := none) ntq (o := .tup [.int (1 : Int), .ref t3])
              have fD9 := fq.lst (gr_lstT f9 hDt eDZ)
              have fz9 : ItemsV K _ (zs) (acc) := fq.tpAll (f9.tpAllT (TapeOk.isl htZ) hzZ)
              have fu9 : PartV K _ (.ref t3) ((.box true d (b' ++ [(c + 1, .box true d (rzL 1 b'))]))) := fq.tp (f9.tpT (TapeOk.isl htZ) huZ)
              have f90 := (Gr.trans gZ f9).trans (fq.weak (t := some t))
              have hj9' : j9 ≤ (acc).length := by omega
              obtain ⟨fB, fzB⟩ := push_ins nDa f90 fD9 fz9 (ItemV.mk (c := 1) (p := (.box true d (b' ++ [(c + 1, .box true d (rzL 1 b'))]))) (by exact SqT.of upd_same) fu9) j9
              have fzl : (zs).length < sizeLine := by show _ < 2 ^ 24; omega
              refine ⟨Da, _, (j9 : Int), .ref tq, rfl, rfl, fD9, fzl, by omega, by omega, ?_⟩
              have ftB := (hj9t.gr fq).other (o := .lst ((zs).take j9 ++ [.ref tq] ++ (zs).drop j9)) hDt hDs
              rw [Int.toNat_natCast]
              refine ⟨_, _, _, _, _, _, rfl, fB, ftB, upd_same, fzB, ?_, fun out ho => hh out (HidL.unfold hpA ⟨j9, hj9', rfl⟩ ho)⟩
              rw [List.length_append, List.length_append, List.length_take, List.length_drop, List.length_singleton]
              omega
            · have w1 : decide (wordS p' = "wait") = false := by
                cases p' with
                | name x => exact decide_eq_false (by show ("name" : Str) ≠ "wait"; decide)
                | got x => exact decide_eq_false (by show ("got" : Str) ≠ "wait"; decide)
                | box w d b =>
                  cases w
                  · exact decide_eq_false (by show kindS false ≠ "wait"; decide)
                  · exact absurd ⟨d, b, rfl⟩ hwt
              refine iteT (rd_ixEq (i := 4) (k := 0) rfl (g6.sqt htA.isl hwS) hww false w1 (iteF ?_))
              have hzl7 : (zs).length = (acc).length := ItemsV.len hz6
              have hal7 : (acc).length ≤ 2 * i + 1 := by first | omega | (simp only [List.length_append, List.length_take, List.length_drop, List.length_singleton]; omega)
              have esz2 : ((zs).length : Int) + 1 = (((zs).length + 1 : Nat) : Int) := by push_cast; rfl
              refine ⟨.ref Da, rfl, .inl ⟨rfl, _, SqL.of eD6⟩, .ref t, rfl, .ref Da, rfl, Da, _, rfl, .inl (SqL.of eD6), _, 1, rfl, rfl, t, sc, (zs).length + 1, by rw [← esz2]; rfl, ht6, by omega, by omega, fun j9 J9 f9 hj9t hj9 => ⟨.int ((c + 2 : Nat) : Int), rfl, .ref pA, rfl, by show 2 ≤ sizeLine; decide, fun tq ntq => ?_⟩⟩
              have fq := gr_new (T := T) (t := none) ntq (o := .tup [.int ((c + 2 : Nat) : Int), .ref pA])
              have fD9 := fq.lst (gr_lstT f9 hDt eD6)
              have fz9 : ItemsV K _ (zs) (acc) := fq.tpAll (f9.tpAllT (TapeOk.isl ht6) hz6)
              have fu9 : PartV K _ (.ref pA) (p') := fq.tp (f9.tpT (TapeOk.isl ht6) hu6)
              have f90 := (Gr.trans g06 f9).trans (fq.weak (t := some t))
              have hj9' : j9 ≤ (acc).length := by omega
              obtain ⟨fB, fzB⟩ := push_ins nDa f90 fD9 fz9 (ItemV.mk (c := c + 2) (p := p') (by exact SqT.of upd_same) fu9) j9
              have fzl : (zs).length < sizeLine := by show _ < 2 ^ 24; omega
              refine ⟨Da, _, (j9 : Int), .ref tq, rfl, rfl, fD9, fzl, by omega, by omega, ?_⟩
              have ftB := (hj9t.gr fq).other (o := .lst ((zs).take j9 ++ [.ref tq] ++ (zs).drop j9)) hDt hDs
              rw [Int.toNat_natCast]
              refine ⟨_, _, _, _, _, _, rfl, fB, ftB, upd_same, fzB, ?_, fun out ho => hh out (HidL.plain hpA ⟨j9, hj9', rfl⟩ ho)⟩
              rw [List.length_append, List.length_append, List.length_take, List.length_drop, List.length_singleton]
              omega
          · rw [decide_eq_false hc]
            refine iteF (iteF ?_)
            have hzl7 : (zs).length = (acc).length := ItemsV.len hz6
            have hal7 : (acc).length ≤ 2 * i + 1 := by first | omega | (simp only [List.length_append, List.length_take, List.length_drop, List.length_singleton]; omega)
            have esz2 : ((zs).length : Int) + 1 = (((zs).length + 1 : Nat) : Int) := by push_cast; rfl
            refine ⟨.ref Da, rfl, .inl ⟨rfl, _, SqL.of eD6⟩, .ref t, rfl, .ref Da, rfl, Da, _, rfl, .inl (SqL.of eD6), _, 1, rfl, rfl, t, sc, (zs).length + 1, by rw [← esz2]; rfl, ht6, by omega, by omega, fun j9 J9 f9 hj9t hj9 => ⟨.int (c0 : Int), rfl, .ref pA, rfl, by show 2 ≤ sizeLine; decide, fun tq ntq => ?_⟩⟩
            have fq := gr_new (T := T) (t := none) ntq (o := .tup [.int (c0 : Int), .ref pA])
            have fD9 := fq.lst (gr_lstT f9 hDt eD6)
            have fz9 : ItemsV K _ (zs) (acc) := fq.tpAll (f9.tpAllT (TapeOk.isl ht6) hz6)
            have fu9 : PartV K _ (.ref pA) (p') := fq.tp (f9.tpT (TapeOk.isl ht6) hu6)
            have f90 := (Gr.trans g06 f9).trans (fq.weak (t := some t))
            have hj9' : j9 ≤ (acc).length := by omega
            obtain ⟨fB, fzB⟩ := push_ins nDa f90 fD9 fz9 (ItemV.mk (c := c0) (p := p') (by exact SqT.of upd_same) fu9) j9
            have fzl : (zs).length < sizeLine := by show _ < 2 ^ 24; omega
            refine ⟨Da, _, (j9 : Int), .ref tq, rfl, rfl, fD9, fzl, by omega, by omega, ?_⟩
            have ftB := (hj9t.gr fq).other (o := .lst ((zs).take j9 ++ [.ref tq] ++ (zs).drop j9)) hDt hDs
            rw [Int.toNat_natCast]
            refine ⟨_, _, _, _, _, _, rfl, fB, ftB, upd_same, fzB, ?_, fun out ho => hh out (HidL.plain hpA ⟨j9, hj9', rfl⟩ ho)⟩
            rw [List.length_append, List.length_append, List.length_take, List.length_drop, List.length_singleton]
            omega
        · rw [decide_eq_false hkk]
          refine iteF (iteF ?_)
          have hzl7 : (zs).length = (acc).length := ItemsV.len hz6
          have hal7 : (acc).length ≤ 2 * i + 1 := by first | omega | (simp only [List.length_append, List.length_take, List.length_drop, List.length_singleton]; omega)
          have esz2 : ((zs).length : Int) + 1 = (((zs).length + 1 : Nat) : Int) := by push_cast; rfl
          refine ⟨.ref Da, rfl, .inl ⟨rfl, _, SqL.of eD6⟩, .ref t, rfl, .ref Da, rfl, Da, _, rfl, .inl (SqL.of eD6), _, 1, rfl, rfl, t, sc, (zs).length + 1, by rw [← esz2]; rfl, ht6, by omega, by omega, fun j9 J9 f9 hj9t hj9 => ⟨.int (c0 : Int), rfl, .ref pA, rfl, by show 2 ≤ sizeLine; decide, fun tq ntq => ?_⟩⟩
          have fq := gr_new (T := T) (t := none) ntq (o := .tup [.int (c0 : Int), .ref pA])
          have fD9 := fq.lst (gr_lstT f9 hDt eD6)
          have fz9 : ItemsV K _ (zs) (acc) := fq.tpAll (f9.tpAllT (TapeOk.isl ht6) hz6)
          have fu9 : PartV K _ (.ref pA) (p') := fq.tp (f9.tpT (TapeOk.isl ht6) hu6)
          have f90 := (Gr.trans g06 f9).trans (fq.weak (t := some t))
          have hj9' : j9 ≤ (acc).length := by omega
          obtain ⟨fB, fzB⟩ := push_ins nDa f90 fD9 fz9 (ItemV.mk (c := c0) (p := p') (by exact SqT.of upd_same) fu9) j9
          have fzl : (zs).length < sizeLine := by show _ < 2 ^ 24; omega
          refine ⟨Da, _, (j9 : Int), .ref tq, rfl, rfl, fD9, fzl, by omega, by omega, ?_⟩
          have ftB := (hj9t.gr fq).other (o := .lst ((zs).take j9 ++ [.ref tq] ++ (zs).drop j9)) hDt hDs
          rw [Int.toNat_natCast]
          refine ⟨_, _, _, _, _, _, rfl, fB, ftB, upd_same, fzB, ?_, fun out ho => hh out (HidL.plain hpA ⟨j9, hj9', rfl⟩ ho)⟩
          rw [List.length_append, List.length_append, List.length_take, List.length_drop, List.length_singleton]
          omega
  · obtain ⟨y3, y4, y5, y6, zs, acc, rfl, g, ht, eD, hz, hal, hh⟩ := hP
    rw [List.drop_of_length_le (by omega)] at hh
    refine ⟨.ref Da, rfl, .inl ⟨Da, zs, rfl, SqL.of eD, fun pt npt => ?_⟩⟩
    have gy : Gr T none H3 (upd H3 pt (.tup zs)) := gr_new npt
    exact q acc _ _ (g.trans (gy.weak (t := some t))) (ht.gr gy) (PlanV.mk (SqT.of upd_same) (gy.tpAll hz)) (hh _ (HidL.nil acc))
theorem ok_hidden (Df : DefN K mg "_law_hidden" sLawHidden ["_law_tape_here", "_law_plan_here"]) (X : Txt mg) (cK : C8.Cal P w K mg base 1 "_law_pick" (spPick T K) []) (cR : C8.Cal P w K mg base 21 "_law_raise" (spLawRaise T K 20) []) : ∀ D, C8.Cal P w K mg base (21 + D) "_law_hidden" (spHid T K D) []
  | 0 => calFalse Df fun vs H Q E h => by
      obtain ⟨t, sc, v, b, n, _, _, _, _, hd, _⟩ := h
      omega
  | D + 1 => ok_hidden1 (L := 21 + D) Df X (by omega) cK cR (ok_hidden Df X cK cR D)
end
end G6

set_option autoImplicit false
set_option Elab.async false
set_option linter.all false
set_option maxRecDepth 100000
set_option maxHeartbeats 4000000
/-! repr of plans; a def that runs where nothing is being shown. -/
namespace G6
open PySem PySem.Spec PyProof.Rows L2 LamX NdefX
/-- data that repr shows in few signs -/
structure ShowOk (d : PyData) : Prop where
  lay : d.canLay0 = true
  dep : d.depth ≤ 64
  sho : d.showable = true
  shorts : d.intsShort 21 = true
  blk : d.bulk ≤ 2 ^ 18
theorem ShowOk.size {d : PyData} (h : ShowOk d) : d.shown.length ≤ sizeLine := by
  have h1 := PyData.shown_le_bulk 21 (by decide) d (PyData.leavesShort_of_canLay0 21 d h.lay h.shorts)
  have h2 : (21 + 2) * d.bulk ≤ 23 * 2 ^ 18 := Nat.mul_le_mul_left _ h.blk
  rw [sizeLine_eq]
  omega
theorem ShowOk.shaped {d : PyData} (h : ShowOk d) : SeqAt.shaped d = true := by
  unfold SeqAt.shaped
  rw [h.lay, decide_eq_true h.dep]
  rfl
theorem int_short {c : Nat} (h : c < 2 ^ 64) : PyData.intsShort 21 (.int (c : Int)) = true := by
  have e := int_text_length_le10 (a := (c : Int)) (k := 20) (by decide) (by rw [Int.natAbs_natCast]; omega)
  have e2 : (PyData.shown (.int (c : Int))).length ≤ 21 := by
    show (Str.ofString (toString (c : Int))).length ≤ 21
    rw [PySem.ofString_length]
    exact e
  rw [PyData.intsShort]
  exact decide_eq_true e2
theorem int_sho {c : Nat} (h : c < 2 ^ 64) : PyData.showable (.int (c : Int)) = true := by
  rw [PyData.showable, Int.natAbs_natCast]
  refine decide_eq_true ?_
  by_cases h0 : c = 0
  · subst h0
    decide
  · have : c.log2 < 64 := (Nat.log2_lt h0).mpr h
    omega
theorem short_tup (xs : List PyData) : PyData.intsShort 21 (.tuple xs) = PyData.intsShortAll 21 xs := by rw [PyData.intsShort]
theorem short_cons (x : PyData) (xs : List PyData) : PyData.intsShortAll 21 (x :: xs) = (PyData.intsShort 21 x && PyData.intsShortAll 21 xs) := by rw [PyData.intsShortAll]
theorem short_nil : PyData.intsShortAll 21 [] = true := by rw [PyData.intsShortAll]
theorem short_str (x : Str) : PyData.intsShort 21 (.str x) = true := by rw [PyData.intsShort]
theorem sho_tup (xs : List PyData) : PyData.showable (.tuple xs) = PyData.showableAll xs := by rw [PyData.showable]
theorem sho_cons (x : PyData) (xs : List PyData) : PyData.showableAll (x :: xs) = (PyData.showable x && PyData.showableAll xs) := by rw [PyData.showableAll]
theorem sho_nil : PyData.showableAll [] = true := by rw [PyData.showableAll]
theorem sho_str (x : Str) : PyData.showable (.str x) = true := by rw [PyData.showable]
theorem blk_tup (xs : List PyData) : PyData.bulk (.tuple xs) = PyData.bulkAll xs := by rw [PyData.bulk]
theorem blk_cons (x : PyData) (xs : List PyData) : PyData.bulkAll (x :: xs) = PyData.bulk x + 1 + PyData.bulkAll xs := by rw [PyData.bulkAll]
theorem blk_nil : PyData.bulkAll [] = 0 := by rw [PyData.bulkAll]
theorem blk_str (x : Str) : PyData.bulk (.str x) = x.cps.size := by rw [PyData.bulk]
theorem blk_int (i : Int) : PyData.bulk (.int i) = 0 := by rw [PyData.bulk]
theorem blk_S {x : List Nat} (h : okLab x) : (S x).cps.size = 1 := by
  obtain ⟨c, rfl, _⟩ := h
  rfl
theorem items_show_of : ∀ b : Pl, (∀ q ∈ b, q.1 < 2 ^ 64 ∧ PyData.showable (partD q.2) = true ∧ PyData.intsShort 21 (partD q.2) = true ∧ PyData.bulk (partD q.2) + 3 ≤ 20 * nd q.2) →
    PyData.showableAll (b.map itemD) = true ∧ PyData.intsShortAll 21 (b.map itemD) = true ∧ PyData.bulkAll (b.map itemD) ≤ 20 * ndL b
  | [], _ => ⟨sho_nil, short_nil, by rw [ndL_nil]; exact Nat.le_of_eq blk_nil⟩
  | (c, p) :: r, h => by
    obtain ⟨h0, h1, h2, h3⟩ := h (c, p) (List.mem_cons_self ..)
    obtain ⟨r1, r2, r3⟩ := items_show_of r fun q hq => h q (List.mem_cons_of_mem _ hq)
    have h1 : PyData.showable (partD p) = true := h1
    have h2 : PyData.intsShort 21 (partD p) = true := h2
    have h3 : PyData.bulk (partD p) + 3 ≤ 20 * nd p := h3
    rw [List.map_cons, sho_cons, short_cons, blk_cons, r1, r2, ndL_cons]
    have ei : itemD (c, p) = .tuple [.int (c : Int), partD p] := rfl
    rw [ei, sho_tup, sho_cons, sho_cons, sho_nil, int_sho h0, h1, short_tup, short_cons, short_cons, short_nil, int_short h0, h2, blk_tup, blk_cons, blk_cons, blk_nil, blk_int]
    exact ⟨rfl, rfl, by omega⟩
theorem part_show : ∀ (p : Pt) (n : Nat), Good n p → sz p < 2 ^ 64 → n + dp p < 2 ^ 32 → PyData.showable (partD p) = true ∧ PyData.intsShort 21 (partD p) = true ∧ PyData.bulk (partD p) + 3 ≤ 20 * nd p := by
  refine Pt.ind (fun x n g hs hn => ?_) (fun d n g hs hn => ?_) (fun w d b ih n g hs hn => ?_)
  · rw [good_name] at g
    rw [partD_name, sho_tup, sho_cons, sho_cons, sho_nil, sho_str, sho_str, short_tup, short_cons, short_cons, short_nil, short_str, short_str, blk_tup, blk_cons, blk_cons, blk_nil, blk_str, blk_str, blk_S g, nd]
    exact ⟨rfl, rfl, by decide⟩
  · rw [good_got] at g
    have h0 : d < 2 ^ 64 := by omega
    rw [partD_got, sho_tup, sho_cons, sho_cons, sho_nil, sho_str, int_sho h0, short_tup, short_cons, short_cons, short_nil, short_str, int_short h0, blk_tup, blk_cons, blk_cons, blk_nil, blk_str, blk_int, nd]
    exact ⟨rfl, rfl, by decide⟩
  · rw [good_box] at g
    rw [sz_box] at hs
    rw [dp_box] at hn
    have hb := items_show_of b fun q hq => ⟨Nat.lt_of_le_of_lt (szL_cnt hq) (by omega), ih q hq _ ((goodL_iff _ _).mp g.2 q hq).2 (Nat.lt_of_le_of_lt (goodL_sz g.2 hq) (by omega)) (by
      have := dp_mem hq
      split <;> omega)⟩
    obtain ⟨b1, b2, b3⟩ := hb
    have hk : (kindS w).cps.size ≤ 6 := by cases w <;> decide
    rw [partD_box, nd_box]
    unfold planD
    rw [itemsD_map, sho_tup, sho_cons, sho_cons, sho_cons, sho_nil, sho_str, sho_str, sho_tup, b1, short_tup, short_cons, short_cons, short_cons, short_nil, short_str, short_str, short_tup, b2, blk_tup, blk_cons, blk_cons, blk_cons, blk_nil, blk_str, blk_str, blk_tup, blk_S g.1]
    exact ⟨rfl, rfl, by omega⟩
theorem plan_show {n : Nat} {b : Pl} (f : FitL n b) (hn : n ≤ 1000) (hd : dpL b ≤ 20) : ShowOk (planD b) := by
  have hb := items_show_of b fun q hq => ⟨f.cnt hq, part_show q.2 n (f.mem hq).good (f.mem hq).sz (by have := dp_mem hq; omega)⟩
  obtain ⟨b1, b2, b3⟩ := hb
  have h1 := plan_depth b
  have h2 := f.nd
  refine ⟨plan_lay f.good, by omega, ?_, ?_, ?_⟩
  · unfold planD
    rw [itemsD_map, sho_tup, b1]
  · unfold planD
    rw [itemsD_map, short_tup, b2]
  · unfold planD
    rw [itemsD_map, blk_tup]
    omega
def pairD (c : Nat) (b : Pl) : PyData := .tuple [.int (c : Int), planD b]
theorem pair_show {n c : Nat} {b : Pl} (hc : c < 2 ^ 64) (f : FitL n b) (hn : n ≤ 1000) (hd : dpL b ≤ 19) : ShowOk (pairD c b) := by
  have h := plan_show f hn (by omega)
  have h1 := plan_depth b
  have h2 := f.nd
  have hb := items_show_of b fun q hq => ⟨f.cnt hq, part_show q.2 n (f.mem hq).good (f.mem hq).sz (by have := dp_mem hq; omega)⟩
  refine ⟨?_, ?_, ?_, ?_, ?_⟩
  · unfold pairD
    rw [canLay_tuple, canLay_cons, canLay_cons, canLay_nil, canLay_int, h.lay]
    rfl
  · unfold pairD
    rw [depth_tuple]
    have : PyData.depthAll [.int (c : Int), planD b] ≤ 63 := depthAll_le fun d hd => by
      rcases List.mem_cons.mp hd with e | e
      · rw [e]
        have : PyData.depth (.int (c : Int)) = 0 := by simp [PyData.depth]
        omega
      · rw [List.mem_singleton.mp e]
        omega
    omega
  · unfold pairD
    rw [sho_tup, sho_cons, sho_cons, sho_nil, int_sho hc, h.sho]
    rfl
  · unfold pairD
    rw [short_tup, short_cons, short_cons, short_nil, int_short hc, h.shorts]
    rfl
  · unfold pairD
    rw [blk_tup, blk_cons, blk_cons, blk_nil, blk_int]
    unfold planD
    rw [itemsD_map, blk_tup]
    have := hb.2.2
    omega
/-! ### repr -/
def rRepr (K : PySem.W.Frag) : List V → Hp → VK → Prop := fun xs H Q => (xs = [.non] ∧ Q (.str "None") H) ∨ ∃ a d, xs = [.ref a] ∧ Dp K H (.ref a) d ∧ ShowOk d ∧ Q (.str d.shown) H
theorem call_repr {X : Cx} (hg : X.A.guards = some []) (hu : X.A.units + 100 < cLine) : CallR X (.builtin "repr") (rRepr X.K) := by
  intro pins s σ H xs us Q I r h
  rcases h with ⟨rfl, q⟩ | ⟨a, d, rfl, hd, hs, q⟩
  · obtain ⟨u, rfl, e⟩ := vals1 r
    cases e
    exact PySem.P.repr_of_none ⟨.str _, H, I.tok _, ⟨_, rfl⟩, q⟩
  · obtain ⟨u, rfl, e⟩ := vals1 r
    cases e
    obtain ⟨as, r1⟩ := Dp.reads I d _ _ hd rfl
    exact repr_of_reads' r1 hs.sho (PyData.noDict_hsm (PyData.hasDict_of_canLay d hs.lay)) hg (by have := hs.dep; omega) (fun _ _ e => e) (fun h' u tk hk => ⟨.str d.shown, H, I.kept (t' := tk) hk, ⟨u, rfl⟩, q⟩) hs.size
/-! ### a def that runs where nothing is being shown -/
def FnG (P : Program) (w : World) (K : PySem.W.Frag) (mg : Str → Option Value) (base : Heap) (k : Nat) (g : Addr) (sp : Sp) : Prop :=
  ∀ (A : Around) (outer : List Env) (s : Shared) (H : Hp) (us : List Value) (vs : List V) (Q : VK), A.guards = some [] → Room k A → Env0 P w K mg base A outer s H → Vals vs us → sp vs H Q C8.E0 →
    codeAny (model P w) A (.call (.ref g) ⟨us, []⟩) (CR C8.CX0 outer P w H s Q C8.E0) s
def CalG (P : Program) (w : World) (K : PySem.W.Frag) (mg : Str → Option Value) (base : Heap) (k : Nat) (x : Str) (sp : Sp) : Prop :=
  ∃ g, FnG P w K mg base k g sp ∧ mg x = some (.ref g) ∧ PySem.W.keepIn K (.ref g) = true
section
variable {P : Program} {w : World} {K : PySem.W.Frag} {mg : Str → Option Value} {base : Heap}
theorem mkCalG {x : Str} {st : Stmt} {N ps : List Str} {k : Nat} {sp : Sp} (D : DefN K mg x st ps) (S : FnScope N ps (C8.fnScope st)) (len : ∀ vs H Q E, sp vs H Q E → vs.length = ps.length)
    (hbody : ∀ (f : Addr) (cdv : Value) (A : Around) (outer : List Env) (s : Shared) (H : Hp) (vs : List V) (Q : VK), (A.deeper (envOfC x (C8.fnScope st) s.heap.objs.size f cdv)).guards = some [] → Room k (A.deeper (envOfC x (C8.fnScope st) s.heap.objs.size f cdv)) → sp vs H Q C8.E0 →
      ∃ t, PSs (cxOf C8.CX0 P w K mg base N x (C8.fnScope st) f cdv A outer s H C8.E0).nox (C8.fnBody st) t ∧ t { nx := fun _ H' => Q .non H', rt := Q } (start N vs) H) : CalG P w K mg base (k + 1) x sp := by
  obtain ⟨f, fd, F, b⟩ := D.ex
  obtain ⟨⟨oc, od, dV, kV, doc, pm, an, cdv, ct, osl, rfl, lk, hcd⟩, hm, hk⟩ := F
  refine ⟨f, fun A outer s H us vs Q hg hr e0 r hsp => ?_, hm, hk⟩
  have hl := len _ _ _ _ hsp
  have hlu : us.length = ps.length := by rw [← r.length]; exact hl
  have KX : K.In s.heap := e0.mod.kin.keeps fun b o e => (e0.bs b o e).1
  have hb := b s us KX (by rw [List.append_nil]; exact hlu)
  rw [List.append_nil] at hb
  refine run_ofS lk hcd S hr e0 hb r hl fun hr' => ?_
  obtain ⟨t, h, q⟩ := hbody f cdv A outer s H vs Q hg hr' hsp
  exact ⟨t, h.nox, q⟩
end
def tCallG (sp : Sp) (t : TA) : TE := fun σ H Q => t σ H fun vs H1 => sp vs H1 Q C8.E0
section
variable {X : Cx} {t : TA} {e : Expr} {es : List Expr} {p pos : PySem.Pos} {x : Str} {k j : Nat}
theorem pe_callG {sp : Sp} (Fn : CalG X.prog X.w X.K X.mg X.base k x sp) (hgd : X.A.guards = some []) (hr : Room j X.A) (hk : k ≤ j) (hg : Gl X x) (ha : PA X (e :: es) t) (hdb : (x == ("__debug__" : Str)) = false := by decide)
    (he : starEach (e :: es) X.env = (false, eval e X.env) :: starEach es X.env := by rfl) (hpl : (backTo pos (starEach es X.env)).any (·.1) = false := by rfl) : PE X (.Call (.Name x p) (e :: es) [] pos) (tCallG sp t) := by
  refine ⟨fun pins s σ H Q I h => ?_⟩
  obtain ⟨g, F, hm, hkp⟩ := Fn
  refine wpAny_Call_Name_kw (ld_glob I hg hm ?_ hdb)
  refine PySem.W.callWith_K (h₀ := X.base) I.ok.mod.kin hkp (thn (ha.run pos pins s σ H _ I h) fun us s1 ⟨vs, H1, I1, r, q⟩ => ⟨I1.kIn, ?_⟩) he hpl
  exact run_after I1 (F X.A X.stack s1 H1 us vs Q hgd (hr.mono hk) I1.env0 r q)
end
/-! ### _law_same -/
section
variable {P : Program} {w : World} {K : PySem.W.Frag} {mg : Str → Option Value} {base : Heap}
def SameV (K : PySem.W.Frag) (H : Hp) (v u : V) : Prop := (v = .non ∧ u = .non) ∨ ∃ a b d, v = .ref a ∧ u = .ref b ∧ Dp K H (.ref a) d ∧ Dp K H (.ref b) d ∧ ShowOk d
def spSame (K : PySem.W.Frag) : Sp := fun vs H Q _ => ∃ v u, vs = [v, u] ∧ SameV K H v u ∧ Q (.bl true) H
theorem scLawSame : FnScope ["_law_told", "_law_due"] ["_law_told", "_law_due"] (C8.fnScope sLawSame) := C8.fnScope_by (by decide +kernel)
theorem ok_same (Df : DefN K mg "_law_same" sLawSame ["_law_told", "_law_due"]) (X : Txt mg) : CalG P w K mg base 1 "_law_same" (spSame K) := by
  refine mkCalG Df scLawSame (fun vs H Q E h => ?_) (fun f cdv A outer s H vs Q hgd hr h => ?_)
  · obtain ⟨v, u, rfl, _⟩ := h; rfl
  obtain ⟨v, u, rfl, hs, q⟩ := h
  have hu : (A.deeper (envOfC "_law_same" (C8.fnScope sLawSame) s.heap.objs.size f cdv)).units + 100 < cLine := by have := hr.un; omega
  refine ⟨_, pss_one (ps_ret (pe_and (pe_cmpR (op_eqD (Nat.lt_of_le_of_lt (Nat.add_le_add_left (by decide) _) hu)) (pv 0) (pv 1) (nomark _)) (pe_one (pe_cmpR op_eq (pe_callB (call_repr hgd hu) (by rfl) X.repr (by decide +kernel) (pa_cons (pv 0) pa_nil)) (pe_callB (call_repr hgd hu) (by rfl) X.repr (by decide +kernel) (pa_cons (pv 1) pa_nil)) (nomark _))))), ?_⟩
  rcases hs with ⟨rfl, rfl⟩ | ⟨a, b, d, rfl, rfl, d1, d2, ok⟩
  · refine ⟨.non, rfl, .non, rfl, .none, .none, .non, .non, rfl, rfl, ?_⟩
    refine ⟨true, rfl, iteT ⟨.non, rfl, .inl ⟨rfl, .non, rfl, .inl ⟨rfl, rfl, ?_⟩⟩⟩⟩
    rw [decide_eq_true rfl]
    exact q
  · refine ⟨.ref a, rfl, .ref b, rfl, d, d, d1, d2, ok.shaped, ok.shaped, ?_⟩
    rw [SeqAt.eqv_refl d ok.lay]
    refine ⟨true, rfl, iteT ⟨.ref a, rfl, .inr ⟨a, d, rfl, d1, ok, .ref b, rfl, .inr ⟨b, d, rfl, d2, ok, rfl, ?_⟩⟩⟩⟩
    rw [decide_eq_true rfl]
    exact q
end
end G6

set_option autoImplicit false
set_option Elab.async false
set_option linter.all false
set_option maxRecDepth 100000
set_option maxHeartbeats 4000000
/-! tuple * k from k = 1 on, the empty tuple too. -/
namespace G6
open PySem PySem.Spec PyProof.Rows L2
theorem tuple_mul1 (l : Addr) (items : Array Value) (n : Nat) (dd : Option Addr) (sl : Array (Option Value)) (x : Int) (u : Tok) (c0 : (decide (x < -(2 ^ 63)) || decide (x ≥ 2 ^ 63)) = false) (c1 : (items.isEmpty || x == 1) = true) :
    Meets (Builtin.«tuple.__mul__» ⟨[.ref l, .int x u], []⟩) (fun _ R s => s.heap.get? l = some { cls := .type "tuple", dict := dd, data := .seq items n, slots := sl } ∧ R (.ok (.ret (Value.ref l))) s) :=
  .of_wp fun prog w A R s h => by
    obtain ⟨hp, g, d, tk, os⟩ := s
    obtain ⟨hl, h⟩ := h
    have f1 := AutoSeq1.idx_int
    wp_walk using wpAny_loadPart' hl
    refine wpAny_ite_false (decide_eq_false (by rw [c0]; exact Bool.false_ne_true)) ?_
    wp_walk using wpAny_loadPart' hl
    exact ⟨_, rfl, h⟩
def rRep1 (K : PySem.W.Frag) : R2 := fun x y H Q => ∃ l k xs, x = .ref l ∧ y = .int k ∧ SqT K H l xs ∧ (xs = [] ∨ k = 1) ∧ 1 ≤ k ∧ k ≤ 1000 ∧ Q (.ref l) H
def rRepN (K : PySem.W.Frag) : R2 := fun x y H Q => rRep1 K x y H Q ∨ rRepT K x y H Q
section
variable {X : Cx}
theorem op_rep1 : OpR X (binaryOp .Mult) (rRep1 X.K) := by
  intro pins s σ H x y v u Q I rx ry h
  obtain ⟨l, k, xs, rfl, rfl, hT, hone, h1, h2, q⟩ := h
  cases rx
  obtain ⟨t, rfl⟩ := ry
  obtain ⟨its, r, ⟨⟨cls, dd, data, sl⟩, ho, hc, n, hd⟩, hs⟩ := I.tuple hT
  simp only at hc hd
  subst hc hd
  have hle : its.length = xs.length := r.length.symm
  have c0 : (decide (k < -(2 ^ 63)) || decide (k ≥ 2 ^ 63)) = false := by
    rw [decide_eq_false (by omega), decide_eq_false (by omega)] <;> rfl
  have c1 : (its.toArray.isEmpty || k == 1) = true := by
    rcases hone with e | e
    · rw [e] at hle
      rw [List.eq_nil_of_length_eq_zero hle]
      rfl
    · rw [e]
      exact Bool.or_true _
  exact wpAny_binaryOp_repeat_ref (T := "tuple") (U := "int") (by decide) ⟨_, ho, rfl⟩ (fun s' => typeIs_int s' k t) noFill_tuple_mul F.fills_int_mul F.slot_int_rmul repeat_tuple F.slot_int_index.lookup
    (call_meets F.slot_int_rmul (typeIs_int s k t) F.entry_int_rmul (F.args_int_rmul_2 _ _) (int_rmul_tuple k t l its.toArray n dd sl)
      ⟨ho, rfl, ⟨_, ho, rfl⟩, call_meets F.slot_tuple_mul ⟨_, ho, rfl⟩ F.entry_tuple_mul (F.args_tuple_mul_2 _ _) (tuple_mul1 l its.toArray n dd sl k t c0 c1) ⟨ho, ⟨.ref l, H, I, rfl, q⟩⟩⟩)
theorem op_repN : OpR X (binaryOp .Mult) (rRepN X.K) := by
  intro pins s σ H x y v u Q I rx ry h
  rcases h with h | h
  · exact op_rep1 pins s σ H x y v u Q I rx ry h
  · exact op_repT pins s σ H x y v u Q I rx ry h
end
end G6

set_option autoImplicit false
set_option Elab.async false
set_option linter.all false
set_option maxRecDepth 100000
set_option maxHeartbeats 4000000
/-! What the law makes: bounds. -/
namespace G6
open PySem PySem.Spec PyProof.Rows L2 NdefX LamX
def repL (B : Pl) (k : Nat) : Pl := (List.replicate k B).flatten
theorem repL_zero (B : Pl) : repL B 0 = [] := rfl
theorem repL_succ (B : Pl) (k : Nat) : repL B (k + 1) = B ++ repL B k := by
  unfold repL
  rw [List.replicate_succ, List.flatten_cons]
theorem repL_mem {B : Pl} {q : Nat × Pt} : ∀ {k : Nat}, q ∈ repL B k → q ∈ B
  | 0, h => by cases h
  | k + 1, h => by
    rw [repL_succ] at h
    rcases List.mem_append.mp h with h | h
    · exact h
    · exact repL_mem h
theorem repL_good {n : Nat} {B : Pl} (g : GoodL n B) (k : Nat) : GoodL n (repL B k) := (goodL_iff _ _).mpr fun q hq => (goodL_iff _ _).mp g q (repL_mem hq)
theorem repL_nd (B : Pl) : ∀ k, ndL (repL B k) = k * ndL B
  | 0 => by rw [repL_zero, ndL_nil, Nat.zero_mul]
  | k + 1 => by rw [repL_succ, ndL_append, repL_nd B k, Nat.succ_mul, Nat.add_comm]
theorem repL_sz (B : Pl) : ∀ k, szL (repL B k) = k * szL B
  | 0 => by rw [repL_zero, szL_nil, Nat.zero_mul]
  | k + 1 => by rw [repL_succ, szL_append, repL_sz B k, Nat.succ_mul, Nat.add_comm]
theorem repL_dp (B : Pl) (k : Nat) : dpL (repL B k) ≤ dpL B := dpL_le.mpr fun q hq => dp_mem (repL_mem hq)
theorem mulL_sz (b : Pl) (k : Nat) : szL (mulL b k) = k * szL b := by
  unfold mulL
  induction b with
  | nil => rw [List.map_nil, szL_nil, Nat.mul_zero]
  | cons q r ih =>
    obtain ⟨c, p⟩ := q
    rw [List.map_cons, szL_cons, szL_cons, ih, Nat.mul_add]
    show c * k * sz p + _ = _
    rw [Nat.mul_comm c k, Nat.mul_assoc]
theorem mapc_nd (f : Nat × Pt → Nat) (b : Pl) : ndL (b.map fun q => (f q, q.2)) = ndL b := by
  induction b with
  | nil => rfl
  | cons q r ih =>
    obtain ⟨c, p⟩ := q
    rw [List.map_cons, ndL_cons, ndL_cons, ih]
theorem mapc_dp (f : Nat × Pt → Nat) (b : Pl) : dpL (b.map fun q => (f q, q.2)) = dpL b := by
  induction b with
  | nil => rfl
  | cons q r ih =>
    obtain ⟨c, p⟩ := q
    rw [List.map_cons, dpL_cons, dpL_cons, ih]
theorem divL_sz (b : Pl) (k : Nat) : szL (divL b k) ≤ szL b := by
  unfold divL
  induction b with
  | nil => exact Nat.le_refl _
  | cons q r ih =>
    obtain ⟨c, p⟩ := q
    rw [List.map_cons, szL_cons, szL_cons]
    exact Nat.add_le_add (Nat.mul_le_mul_right _ (Nat.div_le_self c k)) ih
theorem noW_map {b : Pl} (f : Nat × Pt → Nat) (h : NoW b) : NoW (b.map fun q => (f q, q.2)) := fun q hq => by
  obtain ⟨x, hx, rfl⟩ := List.mem_map.mp hq
  exact h x hx
/-- the plan that the law builds -/
theorem base_ok {B : Pl} {k G : Nat} (g : GoodL 0 B) (hs : szL B ≤ 6) (hk : k ≤ 4) (hG : 1 ≤ G) (hG2 : G ≤ 10 ^ 12) : HidOk 0 (mulL (repL B k) G) ∧ dpL (mulL (repL B k) G) ≤ 6 ∧ ndL (mulL (repL B k) G) ≤ 24 ∧ szL (mulL (repL B k) G) ≤ 24 * 10 ^ 12 := by
  have h1 := ndL_szL g
  have h2 := dpL_nd B
  have h3 := repL_dp B k
  have e1 : dpL (mulL (repL B k) G) = dpL (repL B k) := mapc_dp _ _
  have e2 : ndL (mulL (repL B k) G) = ndL (repL B k) := mapc_nd _ _
  have h4 : k * ndL B ≤ 4 * 6 := Nat.mul_le_mul hk (by omega)
  have h5 : k * szL B ≤ 4 * 6 := Nat.mul_le_mul hk hs
  have h6 : G * (k * szL B) ≤ 10 ^ 12 * 24 := Nat.mul_le_mul hG2 h5
  have h7 : 2 ^ dpL B ≤ 2 ^ 6 := Nat.pow_le_pow_right (by omega) (by omega)
  have e3 : szL (mulL (repL B k) G) ≤ 24 * 10 ^ 12 := by rw [mulL_sz, repL_sz]; omega
  have e4 : ndL (mulL (repL B k) G) ≤ 24 := by rw [e2, repL_nd]; exact h4
  have e5 : dpL (mulL (repL B k) G) ≤ 6 := by rw [e1]; omega
  refine ⟨⟨good_mul (repL_good g k) hG, by omega, ?_, by omega⟩, e5, e4, e3⟩
  have h8 : 2 ^ dpL (mulL (repL B k) G) ≤ 2 ^ 6 := Nat.pow_le_pow_right (by omega) e5
  have h9 : 2 * 2 ^ dpL (mulL (repL B k) G) * ndL (mulL (repL B k) G) ≤ 2 * 2 ^ 6 * 24 := Nat.mul_le_mul (Nat.mul_le_mul_left _ h8) e4
  omega
/-- what the law knows of its hidden plan -/
structure HidR (m h : Pl) : Prop where
  fit : FitL 0 h
  dp : dpL h ≤ 12
  plain : plainOf h = plainOf m
  good : GoodL 0 (h ++ [(1, .name [119])])
  fitx : FitL 0 (h ++ [(1, .name [119])])
  dpx : dpL (h ++ [(1, .name [119])]) ≤ 12
  gcdx : gcdL (plainOf (h ++ [(1, .name [119])])) = 1
theorem lab_w : okLab [119] := ⟨119, rfl, by omega, by omega⟩
theorem hidR {m h : Pl} {n : Nat} (ok : HidOk 0 m) (hd : dpL m ≤ 6) (hn : ndL m ≤ 24) (hs : szL m ≤ 24 * 10 ^ 12) (hw : NoW m) (hh : HidL (HidP n) m [] h) : HidR m h := by
  obtain ⟨h1, h2, h3, h4, h5, h6⟩ := hid_all hh ok.good
  have h8 : 2 ^ dpL m ≤ 2 ^ 6 := Nat.pow_le_pow_right (by omega) hd
  have h9 : 2 * 2 ^ dpL m * ndL m ≤ 2 * 2 ^ 6 * 24 := Nat.mul_le_mul (Nat.mul_le_mul_left _ h8) hn
  obtain ⟨x1, x2⟩ := gcd_extra h1 lab_w (h6 [119] hw)
  have e1 : ndL (h ++ [(1, Pt.name [119])]) = ndL h + 1 := by rw [ndL_append, ndL_one]; rfl
  have e2 : szL (h ++ [(1, Pt.name [119])]) = szL h + 1 := by rw [szL_append, szL_one]; rfl
  have e3 : dpL (h ++ [(1, Pt.name [119])]) = max (dpL h) 0 := by rw [dpL_append, dpL_one]; rfl
  refine ⟨⟨h1, by omega, by omega⟩, by omega, hid_plain hh ok.good, x1, ⟨x1, by omega, by omega⟩, by omega, x2⟩
theorem gcdL_small {b : Pl} {n : Nat} (f : FitL n b) : gcdL b < 2 ^ 64 := by
  by_cases h : b = []
  · rw [h, gcdL_nil]
    decide
  · obtain ⟨q, r, rfl⟩ := List.exists_cons_of_ne_nil h
    exact Nat.lt_of_le_of_lt (gcdL_le f.good.pos (List.mem_cons_self ..)) (f.cnt (List.mem_cons_self ..))
theorem greatD_pos {b : Pl} (h : gcdL b ≠ 0) : greatD b = pairD (gcdL b) (divL b (gcdL b)) := by
  unfold greatD pairD
  rw [if_neg h]
/-- the least root of a form -/
theorem least_fit {m : Pl} (f : FitL 0 m) (h : 1 ≤ gcdL (plainOf m)) {d : Nat} (hd : 1 ≤ d) (hdv : d ∣ gcdL (plainOf m)) : FitL 0 (divL (plainOf m) d) := by
  have fp := f.plain
  refine ⟨good_div fp.good hd hdv, ?_, Nat.lt_of_le_of_lt (divL_sz _ _) fp.sz⟩
  have e : ndL (divL (plainOf m) d) = ndL (plainOf m) := mapc_nd _ _
  rw [e]
  exact fp.nd
theorem least_dp {m : Pl} (f : FitL 0 m) (d : Nat) : dpL (divL (plainOf m) d) ≤ dpL m := by
  have e : dpL (divL (plainOf m) d) = dpL (plainOf m) := mapc_dp _ _
  rw [e]
  exact (ndL_plain f.good).2
section
variable {K : PySem.W.Frag} {T : List NdefX.NTab} {H : Hp} {Q : VK}
theorem tpAll_rep {xs : List V} {B : Pl} (h : ItemsV K H xs B) : ∀ k, ItemsV K H (List.replicate k xs).flatten (repL B k)
  | 0 => .nil
  | k + 1 => by
    rw [repL_succ, List.replicate_succ, List.flatten_cons]
    unfold ItemsV
    rw [List.map_append]
    exact TpAll.append h (tpAll_rep h k)
theorem rep_any {a : Addr} {xs : List V} {B : Pl} {k : Nat} (hS : SqT K H a xs) (hI : ItemsV K H xs B) (hk : 1 ≤ k) (hk4 : k ≤ 1000) (hl : B.length ≤ 1000) (h : ∀ (u : V) (H' : Hp), Gr T none H H' → PlanV K H' u (repL B k) → Q u H') : rRepN K (.ref a) (.int (k : Int)) H Q := by
  by_cases h1 : k = 1
  · subst h1
    refine .inl ⟨a, _, xs, rfl, rfl, hS, .inr rfl, by omega, by omega, h _ H (Gr.refl H) ?_⟩
    rw [repL_succ, repL_zero, List.append_nil]
    exact PlanV.mk hS hI
  · by_cases h2 : xs = []
    · refine .inl ⟨a, _, xs, rfl, rfl, hS, .inl h2, by omega, by omega, h _ H (Gr.refl H) ?_⟩
      have e : repL B k = B := by
        have hb : B = [] := List.eq_nil_of_length_eq_zero (by rw [← hI.len, h2]; rfl)
        rw [hb]
        unfold repL
        simp
      rw [e]
      exact PlanV.mk hS hI
    · refine .inr ⟨a, _, xs, rfl, rfl, hS, h2, by omega, by omega, by rw [hI.len]; exact hl, fun p np => ?_⟩
      have g : Gr T none H (upd H p (.tup (List.replicate ((k : Int)).toNat xs).flatten)) := gr_new np
      refine h _ _ g (PlanV.mk (SqT.of upd_same) (g.tpAll ?_))
      rw [Int.toNat_natCast]
      exact tpAll_rep hI k
end
end G6

set_option autoImplicit false
set_option Elab.async false
set_option linter.all false
set_option maxRecDepth 100000
set_option maxHeartbeats 4000000
/-! The law's body. -/
namespace G6
open PySem PySem.Spec PyProof.Rows L2 NdefX LamX
/-- all that the law calls -/
structure Kit (P : Program) (w : World) (K : PySem.W.Frag) (mg : Str → Option Value) (base : Heap) (T' : List (Addr × Str)) : Prop where
  tape : C8.Cal P w K mg base 90 "_law_tape" (spTape (nT T') K) []
  pick : C8.Cal P w K mg base 90 "_law_pick" (spPick (nT T') K) []
  plan : C8.Cal P w K mg base 90 "_law_plan" (spLawPlan (nT T') K 7) []
  form : C8.Cal P w K mg base 90 "_law_form" (spPlain T' K 19) []
  scaled : C8.Cal P w K mg base 90 "_law_scaled" (spScaled (nT T') K) []
  hidden : C8.Cal P w K mg base 90 "_law_hidden" (spHid (nT T') K 7) []
  shared : C8.Cal P w K mg base 90 "_law_shared" (spShared K) []
  great : C8.Cal P w K mg base 90 "greatest_root" (spGreatest T' K 19) []
  root : C8.Cal P w K mg base 90 "root" (spRoot T' K 19) []
  times : C8.Cal P w K mg base 90 "times" (spTimes T' K 19) []
  same : CalG P w K mg base 90 "_law_same" (spSame K)
section
variable {P : Program} {w : World} {K : PySem.W.Frag} {mg : Str → Option Value} {base : Heap} {T' : List (Addr × Str)}
def spLaw (T' : List (Addr × Str)) (K : PySem.W.Frag) : Sp := fun vs H Q _ => ∃ (a : Addr) (ns : List Int), vs = [.ref a] ∧ SqL K H a (ns.map V.int) ∧ TabsN (nT T') H ∧ ∀ H', Q (.bl true) H'
theorem scLaw : FnScope ["_law_script", "_law_tape_here", "_law_plan_here", "_law_k", "_law_great", "_law_form_here", "_law_hidden_here", "_law_shared_here", "_law_least", "_law_told", "_law_m", "_law_due", "_law_extra", "_law_count", "_law_part_here"] ["_law_script"] (C8.fnScope sLaw) := C8.fnScope_by (by decide +kernel)
theorem ok_law (Df : DefN K mg "law" sLaw ["_law_script"]) (X : Txt mg) (kt : Kit P w K mg base T') : CalG P w K mg base 91 "law" (spLaw T' K) := by
  refine mkCalG Df scLaw (fun vs H Q E h => ?_) (fun f cdv A outer s H vs Q hgd hr h => ?_)
  · obtain ⟨a, ns, rfl, _⟩ := h; rfl
  obtain ⟨a, ns, rfl, hS, hT, q⟩ := h
  have hu64 : (A.deeper (envOfC "law" (C8.fnScope sLaw) s.heap.objs.size f cdv)).units + 64 < cLine := by have := hr.un; omega
  refine ⟨_, (pss_cons (ps_set (i := 1) scLaw.nd rfl (.inl rfl) (C8.pe_c kt.tape hr (Nat.le_refl _) (by rfl) (pa_cons (pv 0) pa_nil)))
    (pss_cons (ps_set (i := 2) scLaw.nd rfl (.inl rfl) (C8.pe_c kt.plan hr (Nat.le_refl _) (by rfl) (pa_cons (pv 1) (pa_cons (C8.pe_c kt.pick hr (Nat.le_refl _) (by rfl) (pa_cons (pv 1) (pa_cons pe_int pa_nil))) (pa_cons pe_int (pa_cons pe_str (pa_cons (pe_lst (pa_cons pe_str (pa_cons pe_str pa_nil))) pa_nil)))))))
    (pss_cons (ps_set (i := 3) scLaw.nd rfl (.inl rfl) (pe_op op_add pe_int (C8.pe_c kt.pick hr (Nat.le_refl _) (by rfl) (pa_cons (pv 1) (pa_cons pe_int pa_nil)))))
    (pss_cons (ps_set (i := 4) scLaw.nd rfl (.inl rfl) (pe_ix ix_list (pe_lst (pa_cons pe_int (pa_cons pe_int (pa_cons pe_int (pa_cons pe_int (pa_cons (pe_op op_pow pe_int pe_int) pa_nil)))))) (C8.pe_c kt.pick hr (Nat.le_refl _) (by rfl) (pa_cons (pv 1) (pa_cons pe_int pa_nil))) (fun _ _ => rfl)))
    (pss_cons (ps_set (i := 5) scLaw.nd rfl (.inl rfl) (C8.pe_c kt.form hr (Nat.le_refl _) (by rfl) (pa_cons (C8.pe_c kt.scaled hr (Nat.le_refl _) (by rfl) (pa_cons (pe_op op_repN (pv 2) (pv 3)) (pa_cons (pv 4) pa_nil))) pa_nil)))
    (pss_cons (ps_set (i := 6) scLaw.nd rfl (.inl rfl) (C8.pe_c kt.hidden hr (Nat.le_refl _) (by rfl) (pa_cons (pv 1) (pa_cons (C8.pe_c kt.scaled hr (Nat.le_refl _) (by rfl) (pa_cons (pe_op op_repN (pv 2) (pv 3)) (pa_cons (pv 4) pa_nil))) pa_nil))))
    (pss_cons (ps_set (i := 7) scLaw.nd rfl (.inr rfl) (C8.pe_c kt.shared hr (Nat.le_refl _) (by rfl) (pa_cons (pv 5) pa_nil)))
    (pss_cons (ps_if (pt_cmpR op_eq (pv 7) pe_int (nomark _)) (pss_one (ps_ret (pe_and (pe_callG kt.same hgd hr (Nat.le_refl _) (by rfl) (pa_cons (C8.pe_c kt.great hr (Nat.le_refl _) (by rfl) (pa_cons (pv 6) pa_nil)) (pa_cons (pe_tup (pa_cons pe_int (pa_cons (pe_tup pa_nil) pa_nil))) pa_nil))) (pe_one (pe_cmpR (op_eqD hu64) (C8.pe_c kt.root hr (Nat.le_refl _) (by rfl) (pa_cons (pv 6) (pa_cons (pe_op op_add pe_int (C8.pe_c kt.pick hr (Nat.le_refl _) (by rfl) (pa_cons (pv 1) (pa_cons pe_int pa_nil)))) pa_nil))) (pe_tup pa_nil) (nomark _)))))) pss_nil)
    (pss_cons (ps_set (i := 8) scLaw.nd rfl (.inl rfl) (pe_tupleOf (by rfl) X.tuple
      (pe_lc (own := [("_law_count", 13), ("_law_part_here", 14)]) (g := gTup K 2 (gCons (gName 13) (gCons (gName 14) gNil))) (tt := tYes) rfl scLaw.nd (pi_tup (pv 5)) (blkOk_by (N := ["_law_script", "_law_tape_here", "_law_plan_here", "_law_k", "_law_great", "_law_form_here", "_law_hidden_here", "_law_shared_here", "_law_least", "_law_told", "_law_m", "_law_due", "_law_extra", "_law_count", "_law_part_here"]) (sc := C8.fnScope sLaw) (by decide +kernel))
        (fun _ _ _ _ _ => pg_tup rfl (pgs_cons (pg_name (i := 13) scLaw.nd rfl (Or.inl rfl)) (pgs_cons (pg_name (i := 14) scLaw.nd rfl (Or.inl rfl)) pgs_nil))) (fun _ _ _ _ _ => pts_nil)
        (fun _ _ _ _ _ => pe_tup (pa_cons (pe_op op_fdivW (pv 13) (pv 7)) (pa_cons (pv 14) pa_nil))))))
    (pss_cons (ps_set (i := 9) scLaw.nd rfl (.inl rfl) (C8.pe_c kt.great hr (Nat.le_refl _) (by rfl) (pa_cons (pv 6) pa_nil)))
    (pss_cons (ps_if (pt_not (pt_val (pe_callG kt.same hgd hr (Nat.le_refl _) (by rfl) (pa_cons (pv 9) (pa_cons (pe_tup (pa_cons (pv 7) (pa_cons (pv 8) pa_nil))) pa_nil))))) (pss_one (ps_ret pe_bl)) pss_nil)
    (pss_cons (ps_for PassesOwn.never rfl (pi_range2 (by rfl) X.range (pa_cons pe_int (pa_cons pe_int pa_nil))) (pg_name (i := 10) scLaw.nd rfl (Or.inl rfl)) (pss_cons (ps_set (i := 11) scLaw.nd rfl (.inl rfl) pe_non) (pss_cons (ps_if (pt_cmpR op_eq (pe_op op_mul (pe_op op_fdivW (pv 7) (pv 10)) (pv 10)) (pv 7) (nomark _)) (pss_one (ps_set (i := 11) scLaw.nd rfl (.inl rfl) (C8.pe_c kt.times hr (Nat.le_refl _) (by rfl) (pa_cons (pv 8) (pa_cons (pe_op op_fdivW (pv 7) (pv 10)) pa_nil))))) pss_nil) (pss_one (ps_if (pt_not (pt_val (pe_callG kt.same hgd hr (Nat.le_refl _) (by rfl) (pa_cons (C8.pe_c kt.root hr (Nat.le_refl _) (by rfl) (pa_cons (pv 6) (pa_cons (pv 10) pa_nil))) (pa_cons (pv 11) pa_nil))))) (pss_one (ps_ret pe_bl)) pss_nil)))))
    (pss_cons (ps_if (PW.pt (pw_or (pt_not (pt_val (pe_callG kt.same hgd hr (Nat.le_refl _) (by rfl) (pa_cons (C8.pe_c kt.root hr (Nat.le_refl _) (by rfl) (pa_cons (pv 6) (pa_cons (pv 7) pa_nil))) (pa_cons (pv 8) pa_nil))))) (pw_or1 (pt_not (pt_val (pe_callG kt.same hgd hr (Nat.le_refl _) (by rfl) (pa_cons (C8.pe_c kt.great hr (Nat.le_refl _) (by rfl) (pa_cons (pv 8) pa_nil)) (pa_cons (pe_tup (pa_cons pe_int (pa_cons (pv 8) pa_nil))) pa_nil)))))))) (pss_one (ps_ret pe_bl)) pss_nil)
    (pss_cons (ps_set (i := 12) scLaw.nd rfl (.inl rfl) (pe_tup (pa_cons (pe_tup (pa_cons pe_int (pa_cons (pe_tup (pa_cons pe_str (pa_cons pe_str pa_nil))) pa_nil))) pa_nil)))
    (pss_one (ps_ret (pe_callG kt.same hgd hr (Nat.le_refl _) (by rfl) (pa_cons (C8.pe_c kt.great hr (Nat.le_refl _) (by rfl) (pa_cons (pe_op op_catA (pv 6) (pv 12)) pa_nil)) (pa_cons (pe_tup (pa_cons pe_int (pa_cons (C8.pe_c kt.form hr (Nat.le_refl _) (by rfl) (pa_cons (pe_op op_catA (pv 6) (pv 12)) pa_nil)) pa_nil))) pa_nil))))))))))))))))))), ?_⟩
  refine ⟨.ref a, rfl, a, ns, rfl, hS, fun t sc H1 g1 ht1 => ?_⟩
  have hT1 := g1.tabs hT
  clear hT hS g1
  refine ⟨.ref t, rfl, .ref t, rfl, t, sc, 7, rfl, ht1, by omega, by omega, fun l H2 g2 ht2 hl => ⟨by show 2 ≤ sizeLine; decide, fun wl nwl => ?_⟩⟩
  have g3 := gr_new (T := nT T') (t := none) nwl (o := .lst [.str "x", .str "y"])
  have hw3 : SqL K (upd H2 wl (.lst [.str "x", .str "y"])) wl [.str (S [120]), .str (S [121])] := by
    have e1 : S [120] = ("x" : Str) := by decide +kernel
    have e2 : S [121] = ("y" : Str) := by decide +kernel
    rw [e1, e2]
    exact SqL.of upd_same
  have ht3 := ht2.gr g3
  have hT3 := g3.tabs (g2.tabs hT1)
  refine ⟨t, sc, wl, l, 0, rfl, ⟨ht3, hw3, (ht2.apart nwl).1⟩, hl, by omega, fun B u H4 g4 ht4 hB gB hszB hW => ?_⟩
  have hT4 := g4.tabs hT3
  refine ⟨.ref t, rfl, t, sc, 4, rfl, ht4, by omega, by omega, fun ki H5 g5 ht5 hki => ⟨1, (ki : Int), rfl, rfl, ?_⟩⟩
  have hT5 := g5.tabs hT4
  have hB5 : PlanV K H5 u B := g5.tpT ht4.isl hB
  have ek : (fun i j => V.int (i + j)) 1 (ki : Int) = V.int ((ki + 1 : Nat) : Int) := by
    show V.int (1 + (ki : Int)) = _
    congr 1
    push_cast
    omega
  rw [ek]
  obtain ⟨k, hk⟩ : ∃ k, k = ki + 1 := ⟨_, rfl⟩
  rw [← hk]
  have hk1 : 1 ≤ k := by omega
  have hk4 : k ≤ 4 := by omega
  clear hk hki ek hB g4 g5 hT4 hT3 hT1 g2 g3 hw3 ht1 ht2 ht3 ht4
  refine ⟨10, 12, rfl, rfl, ⟨by decide, by decide, by decide⟩, by show 5 ≤ sizeLine; decide, fun gl ngl => ⟨.ref t, rfl, ?_⟩⟩
  have g6 := gr_new (T := nT T') (t := none) ngl (o := .lst [.int 1, .int 1, .int 1, .int 6, .int (10 ^ (12 : Int).toNat)])
  have ht6 := ht5.gr g6
  have hn6 : gl ≠ t := (ht5.apart ngl).1
  have hS6 : SqL K (upd H5 gl (.lst [.int 1, .int 1, .int 1, .int 6, .int (10 ^ (12 : Int).toNat)])) gl [.int 1, .int 1, .int 1, .int 6, .int (10 ^ (12 : Int).toNat)] := SqL.of upd_same
  refine ⟨t, sc, 5, rfl, ht6, by omega, by omega, fun gi H7 g7 ht7 hgi => ?_⟩
  obtain ⟨G, hat, hG1, hG2⟩ : ∃ G : Nat, atI [V.int 1, .int 1, .int 1, .int 6, .int (10 ^ (12 : Int).toNat)] (gi : Int) = some (.int (G : Int)) ∧ 1 ≤ G ∧ G ≤ 10 ^ 12 := by
    rcases (by omega : gi = 0 ∨ gi = 1 ∨ gi = 2 ∨ gi = 3 ∨ gi = 4) with rfl | rfl | rfl | rfl | rfl
    · exact ⟨1, rfl, by decide, by decide⟩
    · exact ⟨1, rfl, by decide, by decide⟩
    · exact ⟨1, rfl, by decide, by decide⟩
    · exact ⟨6, rfl, by decide, by decide⟩
    · exact ⟨10 ^ 12, rfl, by decide, by decide⟩
  refine ⟨gl, _, (gi : Int), .int (G : Int), rfl, rfl, gr_sqlT g7 hn6 hS6, hat, ?_⟩
  have hT7 := g7.tabs (g6.tabs hT5)
  have hB7 : PlanV K H7 u B := g7.tpT ht6.isl (g6.tp hB5)
  clear hat hgi hS6 hn6 g6 g7 ht6 hT5 hB5 ht5
  obtain ⟨okm, dm, nm, sm⟩ := base_ok (k := k) (G := G) gB (by omega) hk4 hG1 hG2
  have hwm : NoW (mulL (repL B k) G) := noW_map _ fun q hq => hW q (repL_mem hq)
  have hrl : (repL B k).length ≤ 4000 := Nat.le_trans (ndL_len _) (by have h1 := ndL_szL gB; have h2 : k * ndL B ≤ 4 * 6 := Nat.mul_le_mul hk4 (by omega); rw [repL_nd]; omega)
  have hBl : B.length ≤ 1000 := Nat.le_trans (ndL_len _) (by have h1 := ndL_szL gB; omega)
  obtain ⟨ua, uxs, rfl, hBS, hBI⟩ := hB7.inv
  generalize hme : mulL (repL B k) G = m at okm dm nm sm hwm
  have fm := okm.fit
  refine ⟨.ref ua, rfl, .int (k : Int), rfl, rep_any (T := nT T') hBS hBI hk1 (by omega) hBl fun r H8 g8 hr8 => ⟨.int (G : Int), rfl, r, repL B k, G, rfl, hr8, hrl, by omega, fun mv H9 g9 hm9 => ?_⟩⟩
  rw [hme] at hm9
  refine ⟨mv, m, 0, rfl, hm9, fm, by omega, (g8.trans g9).tabs hT7, fun F H10 g10 hF => ?_⟩
  have g710 := (g8.trans g9).trans g10
  have ht10 := ht7.gr g710
  have hT10 := g710.tabs hT7
  have hB10 : PlanV K H10 (.ref ua) B := g710.tp hB7
  clear hBS hBI hB7 g710 g8 g9 g10 hr8 hm9 hT7 ht7
  obtain ⟨ua', uxs', e, hBS, hBI⟩ := hB10.inv
  cases e
  refine ⟨.ref t, rfl, .ref ua, rfl, .int (k : Int), rfl, rep_any (T := nT T') hBS hBI hk1 (by omega) hBl fun r H11 g11 hr11 => ⟨.int (G : Int), rfl, r, repL B k, G, rfl, hr11, hrl, by omega, fun mv H12 g12 hm12 => ?_⟩⟩
  rw [hme] at hm12
  have gx := g11.trans g12
  refine ⟨t, sc, mv, m, 0, rfl, ht10.gr gx, hm12, okm, by omega, fun h hv H13 g13 ht13 hh hid => ?_⟩
  have hF13 : PlanV K H13 F (plainOf m) := g13.tpT (ht10.gr gx).isl (gx.tp hF)
  have hT13 := g13.tabs (gx.tabs hT10)
  have hrr := hidR okm dm nm sm hwm hid
  refine ⟨F, rfl, F, plainOf m, rfl, hF13, fun q hq => fm.plain.cnt hq, ?_⟩
  clear g13 gx g11 g12 hr11 hm12 hBS hBI hB10 hT10 ht10 hF hid hme hwm hrl hBl
  have hFp : FitL 0 (plainOf m) := fm.plain
  have hgs := gcdL_small hFp
  obtain ⟨gg, hgdef⟩ : ∃ gg, gg = gcdL (plainOf m) := ⟨_, rfl⟩
  rw [← hgdef] at hgs ⊢
  have hcmp : V.bl (decide (V.int (gg : Int) = V.int 0)) = V.bl (decide (gg = 0)) := congrArg V.bl (decide_eq_decide.mpr ⟨fun z => by have := V.int.inj z; omega, fun z => by rw [z]; rfl⟩)
  refine ⟨.int (gg : Int), rfl, rfl, decide (gg = 0), hcmp, ?_⟩
  clear hcmp
  by_cases hg0 : gg = 0
  · rw [decide_eq_true hg0]
    subst hg0
    have hnil : plainOf m = [] := by
      by_cases hn : plainOf m = []
      · exact hn
      · have := gcdL_pos hFp.good.pos hn
        omega
    refine iteT ⟨hv, rfl, hv, h, rfl, hh, hrr.fit, by have := hrr.dp; omega, hT13, fun gv H14 g14 hgv => ⟨Nat.zero_le _, fun t1 n1 => ⟨by show 2 ≤ sizeLine; decide, fun t2 n2 => ?_⟩⟩⟩
    have g15 := gr_new (T := nT T') (t := none) n1 (o := .tup [])
    have g16 := gr_new (T := nT T') (t := none) n2 (o := .tup [.int 0, .ref t1])
    rw [hrr.plain, hnil] at hgv
    have ez : greatD [] = pairD 0 [] := by
      unfold greatD pairD planD
      rw [itemsD_map]
      rfl
    rw [ez] at hgv
    have hd1 := ((g15.trans g16).tp hgv).dp _ _
    obtain ⟨ga, gxs, rfl, _, _⟩ := Tp.tuple_inv (show Tp K H14 gv (.tuple [.int ((0 : Nat) : Int), planD []]) from hgv)
    have hd2 : Tp K (upd (upd H14 t1 (.tup [])) t2 (.tup [.int 0, .ref t1])) (.ref t2) (pairD 0 []) := .tup (SqT.of upd_same) (.cons (.int _) (.cons (g16.tp (PlanV.mk (SqT.of upd_same) .nil)) .nil))
    have hsh : ShowOk (pairD 0 []) := pair_show (n := 0) (by decide) ⟨goodL_nil 0, by rw [ndL_nil]; decide, by rw [szL_nil]; decide⟩ (by decide) (by rw [dpL_nil]; decide)
    refine ⟨.ref ga, .ref t2, rfl, .inr ⟨ga, t2, _, rfl, rfl, hd1, hd2.dp _ _, hsh⟩, true, rfl, iteT ?_⟩
    have gA := (g14.trans g15).trans g16
    have htA := ht13.gr gA
    have hhA := gA.tp hh
    have hTA := gA.tabs hT13
    refine ⟨hv, rfl, .ref t, rfl, t, sc, 60, rfl, htA, by omega, by omega, fun ni H17 g17 ht17 hni => ⟨1, (ni : Int), rfl, rfl, hv, h, ni + 1, ?_, g17.tpT htA.isl hhA, hrr.fit, by have := hrr.dp; omega, by omega, by omega, g17.tabs hTA, fun ru H18 g18 hru => ⟨Nat.zero_le _, fun t3 n3 => ?_⟩⟩⟩
    · show [hv, V.int (1 + (ni : Int))] = _
      have e : (1 : Int) + (ni : Int) = ((ni + 1 : Nat) : Int) := by push_cast; omega
      rw [e]
    · have g19 := gr_new (T := nT T') (t := none) n3 (o := .tup [])
      rw [hrr.plain, hnil] at hru
      have hru2 : PlanV K H18 ru [] := by
        rcases hru with ⟨_, z⟩ | ⟨z, _⟩
        · exact z
        · exact absurd (Nat.dvd_zero _) z
      have hp2 : PlanV K (upd H18 t3 (.tup [])) (.ref t3) [] := PlanV.mk (SqT.of upd_same) .nil
      refine ⟨planD [], planD [], (g19.tp hru2).dp _ _, hp2.dp _ _, plan_shaped (goodL_nil 0) (by rw [dpL_nil]; decide), plan_shaped (goodL_nil 0) (by rw [dpL_nil]; decide), ?_⟩
      rw [plan_eqv, decide_eq_true rfl]
      exact q _
  rw [decide_eq_false hg0]
  refine iteF ?_
  have hg1 : 1 ≤ gg := by omega
  obtain ⟨Fa, Fxs, rfl, hFS, hFI⟩ := hF13.inv
  have hxl : Fxs.length = (plainOf m).length := hFI.len
  have hpl := hFp.len
  refine ⟨.ref Fa, rfl, Fa, rfl, ⟨Fxs, hFS⟩, fun D nD => lc_it walk_tup (fun i H3 => Gr (nT T') none H13 H3 ∧ ∃ zs, H3 D = some (.lst zs) ∧ ItemsV K H3 zs (((plainOf m).take i).map fun q => (q.1 / gg, q.2))) ⟨gr_new nD, [], upd_same, .nil⟩ (fun _ _ _ hP => hP.1.sqt0 hFS) (fun i x H3 H4 hi hP hY => ?_) (fun H3 hP => ?_)⟩
  · obtain ⟨g, zs, e, hz⟩ := hP
    obtain ⟨rfl, hx⟩ := hY
    have hib : i < (plainOf m).length := by omega
    obtain ⟨x', hx', ht⟩ := hFI.get (List.getElem?_eq_getElem hib)
    rw [hx] at hx'
    cases hx'
    rw [take_snoc _ (List.getElem?_eq_getElem hib)]
    have hcnt := hFp.cnt (List.getElem_mem hib)
    have hzl : zs.length < sizeLine := by
      have h1 := hz.len
      rw [List.length_map, List.length_take] at h1
      show _ < 2 ^ 24
      omega
    generalize (plainOf m)[i] = q0 at ht hcnt ⊢
    obtain ⟨ia, u, rfl, hS2, hu⟩ := ht.inv
    have hlog : ((gg : Int)).natAbs.log2 < 9000 := by
      rw [Int.natAbs_natCast]
      have : gg.log2 < 64 := (Nat.log2_lt hg0).mpr hgs
      omega
    refine ⟨ia, _, rfl, g.sqt0 hS2, rfl, _, _, rfl, _, _, rfl, rfl, rfl, .int (q0.1 : Int), rfl, .int (gg : Int), rfl, (q0.1 : Int), (gg : Int), rfl, rfl, ⟨by omega, hlog⟩, u, rfl, by show 2 ≤ sizeLine; decide, fun t1 n1 => ?_⟩
    have gx := gr_new (T := nT T') (t := none) n1 (o := .tup [.int ((q0.1 : Int) / (gg : Int)), u])
    have z2 : (((q0.1 / gg : Nat)) : Int) = (q0.1 : Int) / (gg : Int) := by push_cast; rfl
    obtain ⟨e6, g7, z7⟩ := push_item nD g e hz gx (ItemV.mk (c := q0.1 / gg) (p := q0.2) (by rw [z2]; exact SqT.of upd_same) (gx.tp (g.tp hu)))
    exact ⟨zs, e6, hzl, g7, _, upd_same, z7⟩
  obtain ⟨gL, zs, eL, hzL⟩ := hP
  rw [List.take_of_length_le (by omega)] at hzL
  refine .inl ⟨D, zs, rfl, SqL.of eL, fun lt nlt => ?_⟩
  have gl2 := gr_new (T := nT T') (t := none) nlt (o := .tup zs)
  have g1314 := gL.trans gl2
  have hLv : PlanV K (upd H3 lt (.tup zs)) (.ref lt) (divL (plainOf m) gg) := PlanV.mk (SqT.of upd_same) (gl2.tpAll hzL)
  have hhL := g1314.tp hh
  have hTL := g1314.tabs hT13
  generalize upd H3 lt (.tup zs) = H14 at hLv hhL hTL ⊢
  clear g1314 gl2 hzL eL gL hFI hFS hF13 hh hT13 ht13
  have hgle : 1 ≤ gcdL (plainOf m) := by rw [← hgdef]; exact hg1
  have hdv : gg ∣ gcdL (plainOf m) := by rw [← hgdef]; exact Nat.dvd_refl _
  have hlF : FitL 0 (divL (plainOf m) gg) := least_fit fm hgle hg1 hdv
  have hld : dpL (divL (plainOf m) gg) ≤ 6 := Nat.le_trans (least_dp fm gg) dm
  have hlP : plainOf (divL (plainOf m) gg) = divL (plainOf m) gg := div_plain fm.good hg1 hdv
  have hlg : gcdL (divL (plainOf m) gg) = 1 := by rw [hgdef]; exact div_gcd hgle
  refine ⟨hv, rfl, hv, h, rfl, hhL, hrr.fit, by have := hrr.dp; omega, hTL, fun gv H15 g15 hgv => ?_⟩
  rw [hrr.plain, greatD_pos (by omega : gcdL (plainOf m) ≠ 0), ← hgdef] at hgv
  refine ⟨gv, rfl, .int (gg : Int), rfl, .ref lt, rfl, by show 2 ≤ sizeLine; decide, fun t1 n1 => ?_⟩
  have g16 := gr_new (T := nT T') (t := none) n1 (o := .tup [.int (gg : Int), .ref lt])
  have hp1 : Tp K (upd H15 t1 (.tup [.int (gg : Int), .ref lt])) (.ref t1) (pairD gg (divL (plainOf m) gg)) := .tup (SqT.of upd_same) (.cons (.int _) (.cons ((g15.trans g16).tp hLv) .nil))
  obtain ⟨ga, gxs, rfl, _, _⟩ := Tp.tuple_inv (show Tp K H15 gv (.tuple [.int (gg : Int), planD (divL (plainOf m) gg)]) from hgv)
  have hsh1 : ShowOk (pairD gg (divL (plainOf m) gg)) := pair_show hgs hlF (by decide) (by omega)
  refine ⟨.ref ga, .ref t1, rfl, .inr ⟨ga, t1, _, rfl, rfl, (g16.tp hgv).dp _ _, hp1.dp _ _, hsh1⟩, ?_⟩
  have gA := g15.trans g16
  have hhA := gA.tp hhL
  have hTA := gA.tabs hTL
  have hLA := gA.tp hLv
  generalize upd H15 t1 (.tup [.int (gg : Int), .ref lt]) = H16 at hhA hTA hLA ⊢
  obtain ⟨va, vxs, rfl, _, _⟩ := PlanV.inv hhA
  clear hp1 hgv gA g16 g15 hLv hTL hhL n1
  have hlog : ((gg : Int)).natAbs.log2 < 9000 := by
    rw [Int.natAbs_natCast]
    have : gg.log2 < 64 := (Nat.log2_lt hg0).mpr hgs
    omega
  have hshL : ShowOk (planD (divL (plainOf m) gg)) := plan_show hlF (by decide) (by omega)
  refine ⟨true, rfl, iteF ⟨1, 13, rfl, by decide, for_it walk_range (fun i σ H3 => ∃ y10 y11, σ = [some (.ref a), some (.ref t), some (.ref ua), some (.int (k : Int)), some (.int (G : Int)), some (.ref Fa), some (.ref va), some (.int (gg : Int)), some (.ref lt), some (.ref ga), y10, y11, none, none, none] ∧ Gr (nT T') none H16 H3)
    ⟨none, none, rfl, Gr.refl _⟩ (fun _ _ _ _ _ => True.intro) (fun i x σ H3 H17 hi hP hY => ?_) (fun σ H17 hP => ?_)⟩⟩
  · obtain ⟨y10, y11, rfl, g17⟩ := hP
    obtain ⟨rfl, hx⟩ := hY
    obtain ⟨mm, hmm⟩ : ∃ mm, mm = i + 1 := ⟨_, rfl⟩
    have hx2 : x = .int (mm : Int) := by
      rw [hx, hmm]
      show V.int (1 + (i : Int)) = _
      congr 1
      push_cast
      omega
    subst hx2
    have hm1 : 1 ≤ mm := by omega
    have hi12 : i < 12 := hi
    have hm12 : mm ≤ 12 := by omega
    have hlogm : ((mm : Int)).natAbs.log2 < 9000 := by
      rw [Int.natAbs_natCast]
      have : mm.log2 < 64 := (Nat.log2_lt (by omega)).mpr (by omega)
      omega
    have hdd : V.bl (decide (V.int ((gg : Int) / (mm : Int) * (mm : Int)) = V.int (gg : Int))) = V.bl (decide (mm ∣ gg)) := congrArg V.bl (decide_eq_decide.mpr ⟨fun z => by
        have z1 := V.int.inj z
        have z2 : ((gg / mm * mm : Nat) : Int) = (gg : Int) := by push_cast; exact z1
        have z3 : gg / mm * mm = gg := by exact_mod_cast z2
        exact ⟨gg / mm, by rw [Nat.mul_comm]; exact z3.symm⟩, fun z => by
        have z3 : gg / mm * mm = gg := Nat.div_mul_cancel z
        have z2 : ((gg / mm * mm : Nat) : Int) = (gg : Int) := by rw [z3]
        push_cast at z2
        rw [z2]⟩)
    have hqle : gg / mm ≤ gg := Nat.div_le_self _ _
    have ed : (gg : Int) / (mm : Int) = ((gg / mm : Nat) : Int) := by push_cast; rfl
    have hh17 := g17.tp hhA
    have hT17 := g17.tabs hTA
    refine ⟨.int (gg : Int), rfl, .int (mm : Int), rfl, (gg : Int), (mm : Int), rfl, rfl, ⟨by omega, hlogm⟩, .int (mm : Int), rfl, _, (mm : Int), rfl, rfl, .inr ⟨by omega, by omega⟩, .int (gg : Int), rfl, rfl, decide (mm ∣ gg), hdd, ?_⟩
    by_cases hdm : mm ∣ gg
    · rw [decide_eq_true hdm]
      have hdm2 : mm ∣ gcdL (plainOf m) := by rw [← hgdef]; exact hdm
      have hq1 : 1 ≤ gg / mm := Nat.div_pos (Nat.le_of_dvd (by omega) hdm) hm1
      refine iteT ⟨.ref lt, rfl, .int (gg : Int), rfl, .int (mm : Int), rfl, (gg : Int), (mm : Int), rfl, rfl, ⟨by omega, hlogm⟩, .ref lt, divL (plainOf m) gg, gg / mm, by show [V.ref lt, V.int ((gg : Int) / (mm : Int))] = _; rw [ed], g17.tp hLA, hlF, by omega, hq1, by omega, hT17, fun du H18 g18 hdu => ?_⟩
      rw [hlP, div_mul hm1 hdm hdv hg1] at hdu
      refine ⟨.ref va, rfl, .int (mm : Int), rfl, .ref va, h, mm, rfl, g18.tp hh17, hrr.fit, by have := hrr.dp; omega, hm1, by omega, g18.tabs hT17, fun ru H19 g19 hru => ?_⟩
      rw [hrr.plain] at hru
      have hru2 : PlanV K H19 ru (divL (plainOf m) mm) := by
        rcases hru with ⟨_, z⟩ | ⟨z, _⟩
        · exact z
        · exact absurd hdm2 z
      have hsh : ShowOk (planD (divL (plainOf m) mm)) := plan_show (least_fit fm hgle hm1 hdm2) (by decide) (Nat.le_trans (least_dp fm mm) (by omega))
      have hdu2 := g19.tp hdu
      obtain ⟨ra, _, rfl, _, _⟩ := PlanV.inv hru2
      obtain ⟨da, _, rfl, _, _⟩ := PlanV.inv hdu2
      exact ⟨.ref da, rfl, .ref ra, .ref da, rfl, .inr ⟨ra, da, _, rfl, rfl, hru2.dp _ _, hdu2.dp _ _, hsh⟩, true, rfl, iteF ⟨_, _, rfl, (g17.trans g18).trans g19⟩⟩
    · rw [decide_eq_false hdm]
      refine iteF ⟨.ref va, rfl, .int (mm : Int), rfl, .ref va, h, mm, rfl, hh17, hrr.fit, by have := hrr.dp; omega, hm1, by omega, hT17, fun ru H19 g19 hru => ?_⟩
      rw [hrr.plain] at hru
      have hru2 : ru = .non := by
        rcases hru with ⟨z, _⟩ | ⟨_, z⟩
        · exact absurd (by rw [hgdef]; exact z) hdm
        · exact z
      subst hru2
      exact ⟨.non, rfl, .non, .non, rfl, .inl ⟨rfl, rfl⟩, true, rfl, iteF ⟨_, _, rfl, g17.trans g19⟩⟩
  obtain ⟨y10, y11, rfl, g17⟩ := hP
  have hh17 := g17.tp hhA
  have hT17 := g17.tabs hTA
  have hL17 := g17.tp hLA
  clear hhA hTA hLA g17
  refine ⟨.ref va, rfl, .int (gg : Int), rfl, .ref va, h, gg, rfl, hh17, hrr.fit, by have := hrr.dp; omega, hg1, hgs, hT17, fun ru H18 g18 hru => ?_⟩
  rw [hrr.plain] at hru
  have hru2 : PlanV K H18 ru (divL (plainOf m) gg) := by
    rcases hru with ⟨_, z⟩ | ⟨z, _⟩
    · exact z
    · exact absurd hdv z
  obtain ⟨ra, _, rfl, _, _⟩ := PlanV.inv hru2
  refine ⟨.ref lt, rfl, .ref ra, .ref lt, rfl, .inr ⟨ra, lt, _, rfl, rfl, hru2.dp _ _, (g18.tp hL17).dp _ _, hshL⟩, true, rfl, ?_⟩
  have hh18 := g18.tp hh17
  have hT18 := g18.tabs hT17
  have hL18 := g18.tp hL17
  clear hru hru2 hh17 hT17 hL17 g18
  refine iteF ⟨.ref lt, rfl, .ref lt, divL (plainOf m) gg, rfl, hL18, hlF, by omega, hT18, fun gv H19 g19 hgv => ⟨.ref lt, rfl, by show 2 ≤ sizeLine; decide, fun t1 n1 => ?_⟩⟩
  rw [hlP, greatD_pos (by omega : gcdL (divL (plainOf m) gg) ≠ 0), hlg, div_one] at hgv
  have g20 := gr_new (T := nT T') (t := none) n1 (o := .tup [.int 1, .ref lt])
  have hp1 : Tp K (upd H19 t1 (.tup [.int 1, .ref lt])) (.ref t1) (pairD 1 (divL (plainOf m) gg)) := .tup (SqT.of upd_same) (.cons (.int _) (.cons ((g19.trans g20).tp hL18) .nil))
  obtain ⟨gb, gbs, rfl, _, _⟩ := Tp.tuple_inv (show Tp K H19 gv (.tuple [.int ((1 : Nat) : Int), planD (divL (plainOf m) gg)]) from hgv)
  refine ⟨.ref gb, .ref t1, rfl, .inr ⟨gb, t1, _, rfl, rfl, (g20.tp hgv).dp _ _, hp1.dp _ _, pair_show (by decide) hlF (by decide) (by omega)⟩, true, rfl, iteF ?_⟩
  have hh20 := (g19.trans g20).tp hh18
  have hT20 := (g19.trans g20).tabs hT18
  clear hp1 hgv hh18 hT18 hL18
  generalize upd H19 t1 (.tup [.int 1, .ref lt]) = H20 at hh20 hT20 ⊢
  refine ⟨by show 2 ≤ sizeLine; decide, fun w1 nw1 => ⟨by show 2 ≤ sizeLine; decide, fun w2 nw2 => ⟨by show 1 ≤ sizeLine; decide, fun w3 nw3 => ?_⟩⟩⟩
  have gx1 := gr_new (T := nT T') (t := none) nw1 (o := .tup [.str "name", .str "w"])
  have gx2 := gr_new (T := nT T') (t := none) nw2 (o := .tup [.int 1, .ref w1])
  have gx3 := gr_new (T := nT T') (t := none) nw3 (o := .tup [.ref w2])
  have ew : S [119] = ("w" : Str) := by decide +kernel
  have hx1 : PartV K (upd H20 w1 (.tup [.str "name", .str "w"])) (.ref w1) (.name [119]) := PartV.name_mk (by rw [ew]; exact SqT.of upd_same)
  have hx2 := ItemV.mk (c := 1) (p := .name [119]) (gx3.sqt0 (SqT.of upd_same)) ((gx2.trans gx3).tp hx1)
  have hx3 : SqT K (upd (upd (upd H20 w1 (.tup [.str "name", .str "w"])) w2 (.tup [.int 1, .ref w1])) w3 (.tup [.ref w2])) w3 [.ref w2] := SqT.of upd_same
  have hh21 := ((gx1.trans gx2).trans gx3).tp hh20
  have hT21 := ((gx1.trans gx2).trans gx3).tabs hT20
  generalize upd (upd (upd H20 w1 (.tup [.str "name", .str "w"])) w2 (.tup [.int 1, .ref w1])) w3 (.tup [.ref w2]) = H21 at hx2 hx3 hh21 hT21 ⊢
  clear hx1 gx1 gx2 gx3 hh20 hT20
  obtain ⟨va', ys, e, hyS, hyI⟩ := PlanV.inv hh21
  cases e
  have hyl : ys.length + 1 ≤ sizeLine := by
    have h1 := hyI.len
    have h2 := hrr.fit.len
    show _ ≤ 2 ^ 24
    omega
  refine ⟨.ref va, rfl, .ref w3, rfl, catA_any (T := nT T') hyS hx3 hyl fun cc H22 g22 hcc => ?_⟩
  have hc22 : PlanV K H22 (.ref cc) (h ++ [(1, .name [119])]) := PlanV.mk hcc (ItemsV.snoc (g22.tpAll hyI) (g22.tp hx2))
  refine ⟨.ref cc, h ++ [(1, .name [119])], rfl, hc22, hrr.fitx, by have := hrr.dpx; omega, g22.tabs hT21, fun gv H23 g23 hgv => ?_⟩
  rw [greatD_pos (by rw [hrr.gcdx]; decide), hrr.gcdx, div_one] at hgv
  have g2123 := g22.trans g23
  refine ⟨.ref va, rfl, .ref w3, rfl, catA_any (T := nT T') (g2123.sqt0 hyS) (g2123.sqt0 hx3) hyl fun cd H24 g24 hcd => ?_⟩
  have g2124 := g2123.trans g24
  have hc24 : PlanV K H24 (.ref cd) (h ++ [(1, .name [119])]) := PlanV.mk hcd (ItemsV.snoc (g2124.tpAll hyI) (g2124.tp hx2))
  refine ⟨.ref cd, h ++ [(1, .name [119])], 0, rfl, hc24, hrr.fitx, by have := hrr.dpx; omega, g2124.tabs hT21, fun fu H25 g25 hfu => ⟨by show 2 ≤ sizeLine; decide, fun t4 n4 => ?_⟩⟩
  have g26 := gr_new (T := nT T') (t := none) n4 (o := .tup [.int 1, fu])
  have hp2 : Tp K (upd H25 t4 (.tup [.int 1, fu])) (.ref t4) (pairD 1 (plainOf (h ++ [(1, .name [119])]))) := .tup (SqT.of upd_same) (.cons (.int _) (.cons (g26.tp hfu) .nil))
  obtain ⟨gc, gcs, rfl, _, _⟩ := Tp.tuple_inv (show Tp K H23 gv (.tuple [.int ((1 : Nat) : Int), planD (plainOf (h ++ [(1, .name [119])]))]) from hgv)
  have hgv26 := ((g24.trans g25).trans g26).tp hgv
  exact ⟨.ref gc, .ref t4, rfl, .inr ⟨gc, t4, _, rfl, rfl, hgv26.dp _ _, hp2.dp _ _, pair_show (by decide) hrr.fitx.plain (by decide) (by have h1 := (ndL_plain hrr.good).2; have h2 := hrr.dpx; omega)⟩, q _⟩
end
end G6

set_option autoImplicit false
set_option Elab.async false
set_option linter.all false
set_option maxRecDepth 100000
set_option maxHeartbeats 4000000
/-! The end: the law is called where nothing is being shown. -/
namespace G6
open PySem PySem.Spec PyProof.Rows L2 LamX NdefX
/-- the heap that is told at the start: the script (if the top did not write it) and the tables of code objects -/
structure Start (P : Program) (w : World) (K : PySem.W.Frag) (h : Heap) (ts : List Addr) (a : Addr) (ns : List Int) (H : Hp) : Prop where
  tab : ∀ b ∈ ts, H b = some (.tbl #[])
  kind : ∀ b, H b = none ∨ b ∈ ts ∨ ∃ o xs, H b = some (.frz o (.lst xs))
  row : SqL K H a (ns.map V.int)
  ok : HOk P w H h
  at' : ∀ b, H b ≠ none → b = a ∨ b ∈ ts
  out : H a ≠ none → K.lookup a = none
section
variable {P : Program} {w : World} {K : PySem.W.Frag} {h : Heap} {ts : List Addr} {a : Addr} {ns : List Int} {vs : List Value}
theorem start_heap (KX : K.In h) (hT : ∀ b ∈ ts, h.get? b = some { cls := .none, data := .fields #[] }) (ha : h.get? a = some { cls := .type "list", data := .seq vs.toArray }) (hi : IntsAre vs ns) (hl : ns.length ≤ sizeLine) :
    ∃ H, Start P w K h ts a ns H := by
  have rv := vals_ints hi
  have lenV := hi.length
  have aT : a ∉ ts := fun z => by
    have q := hT a z
    rw [ha] at q
    have z' : Data.seq vs.toArray _ = Data.fields #[] := congrArg Obj.data (Option.some.inj q)
    cases z'
  by_cases hk : K.lookup a = none
  · have e1 : ∀ b, b ≠ a → (if b = a then some (HO.frz { cls := .type "list", data := .seq vs.toArray } (.lst (ns.map V.int))) else if b ∈ ts then some (.tbl #[]) else none) = if b ∈ ts then some (.tbl #[]) else none := fun b hb => if_neg hb
    refine ⟨fun b => if b = a then some (.frz { cls := .type "list", data := .seq vs.toArray } (.lst (ns.map V.int))) else if b ∈ ts then some (.tbl #[]) else none, fun b hb => ?_, fun b => ?_, .inl (.inr ⟨_, if_pos rfl⟩), fun b u z => ?_, fun b z => ?_, fun _ => hk⟩
    · have hne : b ≠ a := fun z => aT (z ▸ hb)
      exact (e1 b hne).trans (if_pos hb)
    · by_cases h1 : b = a
      · exact .inr (.inr ⟨_, _, if_pos h1⟩)
      · by_cases h2 : b ∈ ts
        · exact .inr (.inl h2)
        · exact .inl ((e1 b h1).trans (if_neg h2))
    · by_cases h1 : b = a
      · subst h1
        have z' := (if_pos rfl).symm.trans z
        cases z'
        exact ⟨ha, by rw [List.length_map]; exact hl, vs, _, rv, ha⟩
      · have z1 := (e1 b h1).symm.trans z
        by_cases h2 : b ∈ ts
        · have z' := (if_pos h2).symm.trans z1
          cases z'
          exact hT b h2
        · have z' := (if_neg h2).symm.trans z1
          cases z'
    · by_cases h1 : b = a
      · exact .inl h1
      · by_cases h2 : b ∈ ts
        · exact .inr h2
        · exact absurd ((e1 b h1).trans (if_neg h2)) z
  · obtain ⟨o, hk⟩ := Option.ne_none_iff_exists'.mp hk
    have e := KX a o hk
    rw [ha] at e
    cases e
    refine ⟨fun b => if b ∈ ts then some (.tbl #[]) else none, fun b hb => if_pos hb, fun b => ?_, .inr ⟨_, vs.toArray, _, hk, rfl, rfl, rfl, by rw [List.size_toArray, lenV]; exact hl, by simpa using rv⟩, fun b u z => ?_, fun b z => ?_, fun z => absurd (show (if a ∈ ts then some (HO.tbl #[]) else none) = none from if_neg aT) z⟩
    · by_cases h2 : b ∈ ts
      · exact .inr (.inl h2)
      · exact .inl (if_neg h2)
    · by_cases h2 : b ∈ ts
      · have z' := (if_pos h2).symm.trans z
        cases z'
        exact hT b h2
      · have z' := (if_neg h2).symm.trans z
        cases z'
    · by_cases h2 : b ∈ ts
      · exact .inr h2
      · exact absurd (if_neg h2) z
/-- an object that is neither a row of values nor a bare table is not told -/
theorem Start.base {H : Hp} (S : Start P w K h ts a ns H) (hT : ∀ b ∈ ts, h.get? b = some { cls := .none, data := .fields #[] }) (ha : h.get? a = some { cls := .type "list", data := .seq vs.toArray }) {b : Addr} {o : Obj} (e : h.get? b = some o)
    (h1 : ∀ vs n, o.data ≠ .seq vs n) (h2 : o.data ≠ .fields #[]) : (hidT h H).get? b = some o := by
  refine hidT_get e ?_
  cases q : H b with
  | none => rfl
  | some u =>
    rcases S.at' b (by rw [q]; simp) with e' | e'
    · rw [e', ha] at e
      cases e
      exact (h1 _ _ rfl).elim
    · rw [hT b e'] at e
      cases e
      exact (h2 rfl).elim
theorem Start.nsp {H : Hp} (S : Start P w K h ts a ns H) (hT : ∀ b ∈ ts, h.get? b = some { cls := .none, data := .fields #[] }) (ha : h.get? a = some { cls := .type "list", data := .seq vs.toArray }) {b : Addr} {m : Str → Option Value} (n : h.Ns b m) : (hidT h H).Ns b m := by
  obtain ⟨o, es, ep, e, d, r⟩ := n
  exact ⟨o, es, ep, S.base hT ha e (fun vs n z => by rw [d] at z; cases z) (fun z => by rw [d] at z; cases z), d, r⟩
theorem Start.kin {H : Hp} (S : Start P w K h ts a ns H) (KX : K.In h) (nT : ∀ b ∈ ts, K.lookup b = none) : K.In (hidT h H) := fun b o e => hidT_get (KX b o e) (by
  cases q : H b with
  | none => rfl
  | some u =>
    rcases S.at' b (by rw [q]; simp) with e' | e'
    · rw [e'] at e q
      rw [S.out (by rw [q]; simp)] at e
      cases e
    · rw [nT b e'] at e
      cases e)
/-- the law's call: its promise need hold only where no repr is under way -/
theorem law_callG {mg mb : Str → Option Value} {k : Nat} {fa : Addr} {cs : List (Addr × Addr)} {sp : Sp} {s₁ : Shared} (KX : K.In s₁.heap) (hns : s₁.heap.Ns mainGlobals mg) (hb : s₁.heap.Ns builtinsNs mb) (hbb : ∀ x : Str, x ≠ "__name__" → mb x = bootBuiltins x)
    (hlim : s₁.heap.NoLimit) (hg : s₁.gens = #[]) (hT : ∀ p ∈ cs, s₁.heap.get? p.2 = some { cls := .none, data := .fields #[] }) (nT : ∀ p ∈ cs, K.lookup p.2 = none) (C : ∀ p ∈ cs, PySem.W.CodeHd s₁.heap p.1 p.2)
    (hbm : ∃ (bm : Addr) (ob : Obj), mg "__builtins__" = some (.ref bm) ∧ bm ≠ builtinsNs ∧ s₁.heap.get? bm = some ob ∧ ob.cls = .type "module" ∧ ob.dict = some builtinsNs ∧ ob.data = .plain)
    (ha : s₁.heap.get? a = some { cls := .type "list", data := .seq vs.toArray }) (hi : IntsAre vs ns) (hl : ns.length ≤ sizeLine) (hr : Room k callerA)
    (F : ∀ base : Heap, K.In base → base.Ns mainGlobals mg → (∀ p ∈ cs, TabB base mg p.1 p.2) → FnG P w K mg base k fa sp)
    (hsp : ∀ H : Hp, (∀ p ∈ cs, H p.2 = some (.tbl #[])) → SqL K H a (ns.map V.int) → sp [.ref a] H (fun v _ => v = .bl true) C8.E0) :
    codeAny (model P w) callerA (.call (.ref fa) ⟨[.ref a], []⟩) (fun r s' => r = .ok (.ret (.bool true)) ∧ OldK s₁.heap s'.heap ∧ s'.os = s₁.os ∧ AllBare s'.gens) s₁ := by
  have bare : ∀ b ∈ cs.map (·.2), s₁.heap.get? b = some { cls := .none, data := .fields #[] } := fun b hb => by
    obtain ⟨p, hp, rfl⟩ := List.mem_map.mp hb
    exact hT p hp
  obtain ⟨H, S⟩ := start_heap (P := P) (w := w) KX bare ha hi hl
  have hK := S.kin KX fun b hb => by
    obtain ⟨p, hp, rfl⟩ := List.mem_map.mp hb
    exact nT p hp
  have hN := S.nsp bare ha hns
  have hM : L2.Mod K mg (hidT s₁.heap H) := ⟨hK, hN, ⟨mb, S.nsp bare ha hb, hbb⟩, by
    obtain ⟨mc, l1, l2⟩ := hlim
    exact ⟨mc, S.nsp bare ha l1, l2⟩⟩
  have TB : ∀ p ∈ cs, TabB (hidT s₁.heap H) mg p.1 p.2 := fun p hp => by
    have hTp := hT p hp
    refine ⟨?_, ?_, fun z => ?_⟩
    · obtain ⟨o, us, file, tf, flags, tg, inF, text, tt, e1, d, d2, r3, rest⟩ := C p hp
      exact ⟨o, us, file, tf, flags, tg, inF, text, tt, S.base bare ha e1 (fun vs n z => by rw [d2] at z; cases z) (fun z => by rw [d2] at z; cases z; simp at r3), d, d2, r3, rest⟩
    · obtain ⟨bm, ob, b1, b2, b3, b4, b5, b6⟩ := hbm
      refine ⟨bm, ob, b1, b2, fun q => ?_, fun q => ?_, S.base bare ha b3 (fun vs n z => by rw [b6] at z; cases z) (fun z => by rw [b6] at z; cases z), b4, b5, b6⟩
      · obtain ⟨o, es, ep, e, d, _⟩ := hns
        rw [q, e] at b3
        cases b3
        rw [d] at b6
        cases b6
      · rw [q, hTp] at b3
        cases b3
        cases b6
    · obtain ⟨o, es, ep, e, d, _⟩ := hns
      rw [z, hTp] at e
      cases e
      cases d
  have e0 : Env0 P w K mg (hidT s₁.heap H) callerA [] s₁ H := ⟨rfl, hM, fun b o e => of_hidT e, Nat.le_of_eq (hidT_size _ _), trivial, fun b hb => absurd hb List.not_mem_nil, S.ok, .of_eq hg⟩
  have tabs : ∀ p ∈ cs, H p.2 = some (.tbl #[]) := fun p hp => S.tab _ (List.mem_map.mpr ⟨p, hp, rfl⟩)
  refine codeAny_mono (F _ hK hN TB callerA [] s₁ H [.ref a] [.ref a] _ rfl hr e0 (.cons rfl .nil) (hsp H tabs S.row)) fun r s' h => ?_
  cases r with
  | error e => exact (show False from h).elim
  | ok fl =>
    cases fl with
    | next => exact (show False from h).elim
    | brk => exact (show False from h).elim
    | cont => exact (show False from h).elim
    | ret u =>
      obtain ⟨v, H', os, br, un, hok', rel, q⟩ := h
      have q' : v = .bl true := q
      subst q'
      obtain rfl : u = Value.bool true := rel
      have kept : ∀ b o, b ∉ cs.map (·.2) → s₁.heap.get? b = some o → s'.heap.get? b = some o := fun b o nb e => by
        rcases S.kind b with z | z | ⟨ob, xs, z⟩
        · exact un.keep b o e z (fun y => absurd (show b ∈ ([] : List Addr) from y) List.not_mem_nil) List.not_mem_nil
        · exact absurd z nb
        · have z2 := un.frzs b ob _ z
          obtain ⟨e1, _⟩ := S.ok b _ z
          obtain ⟨e2, _⟩ := hok' b _ z2
          rw [e] at e1
          cases e1
          exact e2
      have grown : ∀ p ∈ cs, ∃ more : Array Value, s'.heap.get? p.2 = some { cls := .none, data := .fields more } := fun p hp => by
        obtain ⟨more, z⟩ := un.tbls p.2 #[] (tabs p hp)
        exact ⟨_, hok' p.2 _ z⟩
      refine ⟨rfl, ⟨fun b o e => ?_, fun b o e => ?_⟩, os, br⟩
      · by_cases hb : b ∈ cs.map (·.2)
        · obtain ⟨p, hp, rfl⟩ := List.mem_map.mp hb
          obtain ⟨more, hm⟩ := grown p hp
          rw [hT p hp] at e
          cases e
          exact .inr (.inl ⟨((C p hp).tab (hT p hp)).isCodeTable, rfl, #[], more, rfl, by rw [Array.empty_append]; exact hm⟩)
        · exact .inl (kept b o hb e)
      · by_cases hb : b ∈ cs.map (·.2)
        · obtain ⟨p, hp, rfl⟩ := List.mem_map.mp hb
          obtain ⟨more, hm⟩ := grown p hp
          exact ⟨_, hm⟩
        · exact ⟨o, kept b o hb e⟩
end
/-- what must be known of the law at the head's heap h -/
def LawAtG (l : PySem.W.OpenLaw) (w : World) (K : PySem.W.Frag) (k n : Nat) (mg : Str → Option Value) (fa : Addr) (h : Heap) : Prop :=
  ∃ (cs : List (Addr × Addr)) (sp : Sp), (∀ p ∈ cs, h.get? p.2 = some { cls := .none, data := .fields #[] }) ∧ (∀ p ∈ cs, K.lookup p.2 = none) ∧ (∀ p ∈ cs, PySem.W.CodeHd h p.1 p.2) ∧
    (∀ (H : Hp) (a : Addr) (ns : List Int), ns.length ≤ n → (∀ p ∈ cs, H p.2 = some (.tbl #[])) → SqL K H a (ns.map V.int) → sp [.ref a] H (fun v _ => v = .bl true) C8.E0) ∧
    ∀ base : Heap, K.In base → base.Ns mainGlobals mg → (∀ p ∈ cs, TabB base mg p.1 p.2) → FnG l.prog w K mg base k fa sp
theorem walk_ofG {l : PySem.W.OpenLaw} {n k : Nat} {q : Program} {loose : List Str} {XP : (Str → Option Value) → Heap → Prop} {YP : World → Heap → Prop} {d : DefRec} {K : Params → PySem.W.Frag}
    (hn : l.most = some n) (hn2 : n ≤ sizeLine) (hdf : d.params.defaults = []) (hr : Room k callerA) (hY : ∀ (w : World) (h : Heap), YP w h → (K w.params).In h)
    (F : ∀ (w : World) (mg : Str → Option Value) (fa : Addr) (h : Heap), YP w h → (K w.params).In h → h.Ns mainGlobals mg → mg d.name = some (.ref fa) → LawAtG l w (K w.params) k n mg fa h) :
    PySem.W.WalkO q loose XP YP l.row.toRowW d [] (fun f vs => PySem.call f vs) := by
  refine Att.attach_callB hn hdf fun w s₀ s₁ mg mb fa o pm cd doc a vs ns G Y ho hd hcd hmg hobj hints hlen hbits hg => ?_
  have KX := hY w _ Y
  obtain ⟨cs, sp, hT, nT, C, hsp, hF⟩ := F w mg fa _ Y KX G.T.g hmg
  exact law_callG KX G.T.g G.T.b G.T.builtins G.T.nolimit hg hT nT C G.T.bmain hobj hints (Nat.le_trans hlen hn2) hr hF fun H hH hS => hsp H a ns hlen hH hS
end G6

set_option autoImplicit false
set_option Elab.async false
set_option linter.all false
set_option maxRecDepth 100000
set_option maxHeartbeats 4000000
/-! What the top has left, put together. -/
namespace G6
open PySem PySem.Spec PyProof.Rows L2 LamX NdefX
def ArgsOk (x : Str) (st : Stmt) (ps : List Str) : Prop := ∀ (kV doc pm : Value) (an : Option Addr) (cdv ct : Value) (us : List Value), us.length = ps.length →
  bindArgs (PySem.W.fnOf x x (C8.fnArgs st) (C8.fnBody st) (C8.fnScope st) .none kV doc pm an cdv ct) ⟨us, []⟩ = pure (ps.zip us)
theorem defN_mk {K : PySem.W.Frag} {h : Heap} {mg : Str → Option Value} {x : Str} {st : Stmt} {ps : List Str} {f : Addr} {oc kV doc pm cdv ct : Value} {od an : Option Addr} {osl : Array (Option Value)} (X : K.In h) (G : h.Ns mainGlobals mg) (hb : ArgsOk x st ps)
    (a : PySem.W.nsIn K mainGlobals x = some (some (.ref f))) (l : K.lookup f = some ⟨oc, od, .func (PySem.W.fnOf x x (C8.fnArgs st) (C8.fnBody st) (C8.fnScope st) .none kV doc pm an cdv ct), osl⟩) (c : PySem.W.codeIn K cdv x = true) (k : PySem.W.keepIn K (.ref f) = true) : DefN K mg x st ps := by
  have F : C8.Fun K x x st f (PySem.W.fnOf x x (C8.fnArgs st) (C8.fnBody st) (C8.fnScope st) .none kV doc pm an cdv ct) := ⟨⟨oc, od, .none, kV, doc, pm, an, cdv, ct, osl, rfl, l, c⟩⟩
  exact ⟨⟨f, _, ⟨F, PySem.W.mg_of X G a, k⟩, F.binds rfl hb⟩⟩
theorem defC_mk {K : PySem.W.Frag} {h : Heap} {mg : Str → Option Value} {x : Str} {st : Stmt} {ps : List Str} {f cc : Addr} {oc kV doc pm ct : Value} {od an : Option Addr} {osl : Array (Option Value)} (X : K.In h) (G : h.Ns mainGlobals mg) (hb : ArgsOk x st ps)
    (a : PySem.W.nsIn K mainGlobals x = some (some (.ref f))) (l : K.lookup f = some ⟨oc, od, .func (PySem.W.fnOf x x (C8.fnArgs st) (C8.fnBody st) (C8.fnScope st) .none kV doc pm an (.ref cc) ct), osl⟩) (c : PySem.W.codeIn K (.ref cc) x = true) (k : PySem.W.keepIn K (.ref f) = true) : DefC K mg x st ps cc := by
  have F : C8.Fun K x x st f (PySem.W.fnOf x x (C8.fnArgs st) (C8.fnBody st) (C8.fnScope st) .none kV doc pm an (.ref cc) ct) := ⟨⟨oc, od, .none, kV, doc, pm, an, .ref cc, ct, osl, rfl, l, c⟩⟩
  exact ⟨⟨f, _, ⟨F, PySem.W.mg_of X G a, k⟩, F.binds rfl hb, rfl⟩⟩
theorem b_is_integer : ArgsOk "is_integer" sIsInteger ["thing"] := fun _ _ _ _ _ _ us hl => match us, hl with | [_], _ => rfl
theorem b_is_within : ArgsOk "is_within" sIsWithin ["thing", "least", "most"] := fun _ _ _ _ _ _ us hl => match us, hl with | [_, _, _], _ => rfl
theorem b_is_pair : ArgsOk "is_pair" sIsPair ["thing"] := fun _ _ _ _ _ _ us hl => match us, hl with | [_], _ => rfl
theorem b_is_triple : ArgsOk "is_triple" sIsTriple ["thing"] := fun _ _ _ _ _ _ us hl => match us, hl with | [_], _ => rfl
theorem b_is_word : ArgsOk "is_word" sIsWord ["thing"] := fun _ _ _ _ _ _ us hl => match us, hl with | [_], _ => rfl
theorem b_is_door : ArgsOk "is_door" sIsDoor ["thing"] := fun _ _ _ _ _ _ us hl => match us, hl with | [_], _ => rfl
theorem b_is_part : ArgsOk "is_part" sIsPart ["thing", "depth"] := fun _ _ _ _ _ _ us hl => match us, hl with | [_, _], _ => rfl
theorem b_is_plan_in : ArgsOk "is_plan_in" sIsPlanIn ["thing", "depth"] := fun _ _ _ _ _ _ us hl => match us, hl with | [_, _], _ => rfl
theorem b_check_plan : ArgsOk "check_plan" sCheckPlan ["thing"] := fun _ _ _ _ _ _ us hl => match us, hl with | [_], _ => rfl
theorem b_check_count : ArgsOk "check_count" sCheckCount ["thing", "least", "most"] := fun _ _ _ _ _ _ us hl => match us, hl with | [_, _, _], _ => rfl
theorem b_part_key : ArgsOk "part_key" sPartKey ["part"] := fun _ _ _ _ _ _ us hl => match us, hl with | [_], _ => rfl
theorem b_plan_key : ArgsOk "plan_key" sPlanKey ["plan"] := fun _ _ _ _ _ _ us hl => match us, hl with | [_], _ => rfl
theorem b_sorted_items : ArgsOk "sorted_items" sSortedItems ["items"] := fun _ _ _ _ _ _ us hl => match us, hl with | [_], _ => rfl
theorem b_mapped : ArgsOk "mapped" sMapped ["plan", "depth", "action"] := fun _ _ _ _ _ _ us hl => match us, hl with | [_, _, _], _ => rfl
theorem b_raised : ArgsOk "raised" sRaised ["plan", "by", "least"] := fun _ _ _ _ _ _ us hl => match us, hl with | [_, _, _], _ => rfl
theorem b_folded : ArgsOk "folded" sFolded ["door", "body"] := fun _ _ _ _ _ _ us hl => match us, hl with | [_, _], _ => rfl
theorem b_plain_of : ArgsOk "plain_of" sPlainOf ["plan"] := fun _ _ _ _ _ _ us hl => match us, hl with | [_], _ => rfl
theorem b_bag : ArgsOk "bag" sBag ["rows"] := fun _ _ _ _ _ _ us hl => match us, hl with | [_], _ => rfl
theorem b_root_of : ArgsOk "root_of" sRootOf ["plan", "n"] := fun _ _ _ _ _ _ us hl => match us, hl with | [_, _], _ => rfl
theorem b_times : ArgsOk "times" sTimes ["plan", "n"] := fun _ _ _ _ _ _ us hl => match us, hl with | [_, _], _ => rfl
theorem b_root : ArgsOk "root" sRoot ["plan", "n"] := fun _ _ _ _ _ _ us hl => match us, hl with | [_, _], _ => rfl
theorem b_greatest_root : ArgsOk "greatest_root" sGreatestRoot ["plan"] := fun _ _ _ _ _ _ us hl => match us, hl with | [_], _ => rfl
theorem b__law_tape : ArgsOk "_law_tape" sLawTape ["_law_script"] := fun _ _ _ _ _ _ us hl => match us, hl with | [_], _ => rfl
theorem b__law_pick : ArgsOk "_law_pick" sLawPick ["_law_tape_here", "_law_many"] := fun _ _ _ _ _ _ us hl => match us, hl with | [_, _], _ => rfl
theorem b__law_plan : ArgsOk "_law_plan" sLawPlan ["_law_tape_here", "_law_left", "_law_depth", "_law_letters", "_law_words"] := fun _ _ _ _ _ _ us hl => match us, hl with | [_, _, _, _, _], _ => rfl
theorem b__law_part : ArgsOk "_law_part" sLawPart ["_law_tape_here", "_law_left", "_law_depth", "_law_letters", "_law_words"] := fun _ _ _ _ _ _ us hl => match us, hl with | [_, _, _, _, _], _ => rfl
theorem b__law_part_size : ArgsOk "_law_part_size" sLawPartSize ["_law_part_here"] := fun _ _ _ _ _ _ us hl => match us, hl with | [_], _ => rfl
theorem b__law_size : ArgsOk "_law_size" sLawSize ["_law_plan_here"] := fun _ _ _ _ _ _ us hl => match us, hl with | [_], _ => rfl
theorem b__law_raise : ArgsOk "_law_raise" sLawRaise ["_law_plan_here", "_law_by", "_law_least"] := fun _ _ _ _ _ _ us hl => match us, hl with | [_, _, _], _ => rfl
theorem b__law_key : ArgsOk "_law_key" sLawKey ["_law_part_here"] := fun _ _ _ _ _ _ us hl => match us, hl with | [_], _ => rfl
theorem b__law_joined : ArgsOk "_law_joined" sLawJoined ["_law_items"] := fun _ _ _ _ _ _ us hl => match us, hl with | [_], _ => rfl
theorem b__law_form : ArgsOk "_law_form" sLawForm ["_law_plan_here"] := fun _ _ _ _ _ _ us hl => match us, hl with | [_], _ => rfl
theorem b__law_same : ArgsOk "_law_same" sLawSame ["_law_told", "_law_due"] := fun _ _ _ _ _ _ us hl => match us, hl with | [_, _], _ => rfl
theorem b__law_hidden : ArgsOk "_law_hidden" sLawHidden ["_law_tape_here", "_law_plan_here"] := fun _ _ _ _ _ _ us hl => match us, hl with | [_, _], _ => rfl
theorem b__law_scaled : ArgsOk "_law_scaled" sLawScaled ["_law_plan_here", "_law_k"] := fun _ _ _ _ _ _ us hl => match us, hl with | [_, _], _ => rfl
theorem b__law_shared : ArgsOk "_law_shared" sLawShared ["_law_form_here"] := fun _ _ _ _ _ _ us hl => match us, hl with | [_], _ => rfl
theorem b_law : ArgsOk "law" sLaw ["_law_script"] := fun _ _ _ _ _ _ us hl => match us, hl with | [_], _ => rfl
/-- all that the top has left -/
structure Defs (K : PySem.W.Frag) (w : World) (mg : Str → Option Value) (c1 c2 c3 : Addr) : Prop where
  txt : Txt mg
  rks : Rks K w mg
  d_is_integer : DefN K mg "is_integer" sIsInteger ["thing"]
  d_is_within : DefN K mg "is_within" sIsWithin ["thing", "least", "most"]
  d_is_pair : DefN K mg "is_pair" sIsPair ["thing"]
  d_is_triple : DefN K mg "is_triple" sIsTriple ["thing"]
  d_is_word : DefN K mg "is_word" sIsWord ["thing"]
  d_is_door : DefN K mg "is_door" sIsDoor ["thing"]
  d_is_part : DefN K mg "is_part" sIsPart ["thing", "depth"]
  d_is_plan_in : DefN K mg "is_plan_in" sIsPlanIn ["thing", "depth"]
  d_check_plan : DefN K mg "check_plan" sCheckPlan ["thing"]
  d_check_count : DefN K mg "check_count" sCheckCount ["thing", "least", "most"]
  d_part_key : DefN K mg "part_key" sPartKey ["part"]
  d_plan_key : DefN K mg "plan_key" sPlanKey ["plan"]
  d_sorted_items : DefC K mg "sorted_items" sSortedItems ["items"] c1
  d_mapped : DefN K mg "mapped" sMapped ["plan", "depth", "action"]
  d_raised : DefC K mg "raised" sRaised ["plan", "by", "least"] c2
  d_folded : DefN K mg "folded" sFolded ["door", "body"]
  d_plain_of : DefN K mg "plain_of" sPlainOf ["plan"]
  d_bag : DefN K mg "bag" sBag ["rows"]
  d_root_of : DefN K mg "root_of" sRootOf ["plan", "n"]
  d_times : DefN K mg "times" sTimes ["plan", "n"]
  d_root : DefN K mg "root" sRoot ["plan", "n"]
  d_greatest_root : DefN K mg "greatest_root" sGreatestRoot ["plan"]
  d__law_tape : DefN K mg "_law_tape" sLawTape ["_law_script"]
  d__law_pick : DefN K mg "_law_pick" sLawPick ["_law_tape_here", "_law_many"]
  d__law_plan : DefN K mg "_law_plan" sLawPlan ["_law_tape_here", "_law_left", "_law_depth", "_law_letters", "_law_words"]
  d__law_part : DefN K mg "_law_part" sLawPart ["_law_tape_here", "_law_left", "_law_depth", "_law_letters", "_law_words"]
  d__law_part_size : DefN K mg "_law_part_size" sLawPartSize ["_law_part_here"]
  d__law_size : DefN K mg "_law_size" sLawSize ["_law_plan_here"]
  d__law_raise : DefN K mg "_law_raise" sLawRaise ["_law_plan_here", "_law_by", "_law_least"]
  d__law_key : DefN K mg "_law_key" sLawKey ["_law_part_here"]
  d__law_joined : DefC K mg "_law_joined" sLawJoined ["_law_items"] c3
  d__law_form : DefN K mg "_law_form" sLawForm ["_law_plan_here"]
  d__law_same : DefN K mg "_law_same" sLawSame ["_law_told", "_law_due"]
  d__law_hidden : DefN K mg "_law_hidden" sLawHidden ["_law_tape_here", "_law_plan_here"]
  d__law_scaled : DefN K mg "_law_scaled" sLawScaled ["_law_plan_here", "_law_k"]
  d__law_shared : DefN K mg "_law_shared" sLawShared ["_law_form_here"]
  d_law : DefN K mg "law" sLaw ["_law_script"]
section
variable {P : Program} {w : World} {K : PySem.W.Frag} {mg : Str → Option Value} {base : Heap} {T' : List (Addr × Str)}
theorem calGUp {x : Str} {sp : Sp} {j k : Nat} (c : CalG P w K mg base j x sp) (h : j ≤ k) : CalG P w K mg base k x sp := by
  obtain ⟨g, F, r⟩ := c
  exact ⟨g, fun A outer s H us vs Q hg hr => F A outer s H us vs Q hg (hr.mono h), r⟩
theorem ok_plain_all (Df : DefN K mg "plain_of" sPlainOf ["plan"]) (X : Txt mg) (cF : ∀ n, n ≤ 20 → C8.Cal P w K mg base (n + 4) "folded" (spFolded T' K n) []) (cS : ∀ n, n ≤ 20 → C8.Cal P w K mg base (2 * n + 8) "sorted_items" (spItems T' K n) []) :
    ∀ n, n ≤ 20 → C8.Cal P w K mg base (2 * n + 8) "plain_of" (spPlain T' K n) []
  | 0, _ => calFalse Df fun vs H Q E h => by
      obtain ⟨v, b, n, _, _, _, hd, _⟩ := h
      omega
  | n + 1, hn => calUp (ok_plain1 Df X (by omega) (cF n (by omega)) (cS n (by omega)) (ok_plain_all Df X cF cS n (by omega))) (by omega)
theorem kit_of {c1 c2 c3 P1 P2 P3 : Addr} (D : Defs K w mg c1 c2 c3) (t1 : TabF base mg T' c1 P1 "sorted_items.<locals>.<lambda>") (t2 : TabF base mg T' c2 P2 "raised.<locals>.lift") (t3 : TabF base mg T' c3 P3 "_law_joined.<locals>.<lambda>") :
    Kit P w K mg base T' := by
  have X := D.txt
  have cG : C8.Cal P w K mg base 1 "is_integer" spIsInteger [] := ok_is_integer D.d_is_integer X
  have cI : C8.Cal P w K mg base 2 "is_within" spIsWithin [] := ok_is_within D.d_is_within cG
  have cP : C8.Cal P w K mg base 1 "is_pair" (spTupLen K 2) [] := ok_is_pair D.d_is_pair X
  have cT : C8.Cal P w K mg base 1 "is_triple" (spTupLen K 3) [] := ok_is_triple D.d_is_triple X
  have cW : C8.Cal P w K mg base 1 "is_word" (spWord (nT T')) [] := ok_is_word D.d_is_word X
  have cD : C8.Cal P w K mg base 2 "is_door" (spWord (nT T')) [] := ok_is_door D.d_is_door X cW
  have cIn : C8.Cal P w K mg base 40 "is_plan_in" (spPlanIn (nT T') K 19) [] := ok_plan_in D.d_is_part D.d_is_plan_in X cP cT cW cD cI cG 19
  have cC : C8.Cal P w K mg base 46 "check_plan" (spCheckPlan (nT T') K 19) [] := calUp (ok_check_plan D.d_check_plan cIn) (by decide)
  have cN : C8.Cal P w K mg base 3 "check_count" spCheckCount [] := ok_check_count D.d_check_count cI
  have cKey : ∀ n, C8.Cal P w K mg base (2 * n + 3) "part_key" (spKey (nT T') K n) [] := fun n => ok_part_key D.d_part_key X D.rks (ok_key D.d_part_key D.d_plan_key X D.rks n)
  have cS : ∀ n, n ≤ 20 → C8.Cal P w K mg base (2 * n + 8) "sorted_items" (spItems T' K n) [] := fun n hn => ok_sorted_items D.d_sorted_items X t1 hn (cKey n)
  have cR : ∀ n, C8.Cal P w K mg base (n + 3) "raised" (spRaised T' K n) [] := fun n => ok_raised D.d_raised D.d_mapped X t2 n
  have cF : ∀ n, n ≤ 20 → C8.Cal P w K mg base (n + 4) "folded" (spFolded T' K n) [] := fun n hn => ok_folded D.d_folded X hn (cR n)
  have cPl : ∀ n, n ≤ 20 → C8.Cal P w K mg base (2 * n + 8) "plain_of" (spPlain T' K n) [] := ok_plain_all D.d_plain_of X cF cS
  have cB : C8.Cal P w K mg base 1 "bag" (spBag (nT T') K) [] := ok_bag D.d_bag X
  have cRo : C8.Cal P w K mg base 1 "root_of" (spRootOf (nT T') K) [] := ok_root_of D.d_root_of X
  have cPick : C8.Cal P w K mg base 1 "_law_pick" (spPick (nT T') K) [] := ok_pick D.d__law_pick X
  have cSz : ∀ n, C8.Cal P w K mg base (2 * n + 3) "_law_part_size" (spPartSize (nT T') K n) [] := fun n => ok_part_size D.d__law_part_size X (ok_size D.d__law_part_size D.d__law_size X n)
  have cRa : ∀ n, C8.Cal P w K mg base (n + 1) "_law_raise" (spLawRaise (nT T') K n) [] := ok_law_raise D.d__law_raise X
  have cJ : ∀ n, n ≤ 20 → C8.Cal P w K mg base 71 "_law_joined" (spItems T' K n) [] := fun n hn =>
    ok_law_joined (k0 := 66) D.d__law_joined X t3 hn (by omega) (calUp (key_of_keyS (ok_law_key D.d__law_key X (D0 := 21) (cSz 21) (n + 1) (by omega))) (by omega))
  exact {
    tape := calUp (ok_tape D.d__law_tape X) (by decide)
    pick := calUp cPick (by decide)
    plan := calUp (ok_law_plan D.d__law_plan D.d__law_part X cPick (cSz 6) 7 (by decide)) (by decide)
    form := ok_law_form (L := 71) D.d__law_form X (by decide) cRa cJ 19 (by decide)
    scaled := calUp (ok_scaled D.d__law_scaled X) (by decide)
    hidden := calUp (ok_hidden D.d__law_hidden X cPick (cRa 20) 7) (by decide)
    shared := calUp (ok_shared D.d__law_shared X) (by decide)
    great := calUp (ok_greatest D.d_greatest_root X (by decide) cC (cPl 19 (by decide)) cRo) (by decide)
    root := calUp (ok_root D.d_root X (by decide) cC cN (cPl 19 (by decide)) cRo) (by decide)
    times := calUp (ok_times D.d_times X (by decide) cC cN (cPl 19 (by decide)) cB) (by decide)
    same := calGUp (ok_same D.d__law_same X) (by decide) }
end
end G6

set_option autoImplicit false
set_option Elab.async false
set_option linter.all false
set_option maxRecDepth 100000
set_option maxHeartbeats 4000000
/-! The law holds. -/
namespace G6
open PySem PySem.Spec PyProof.Rows L2 LamX NdefX
theorem tab_start {H : Hp} {P : Addr} {nm : Nat → Nat → Str} (h : H P = some (.tbl #[])) : TabN H P nm := ⟨#[], h, trivial, fun pos cv z => by cases z⟩
theorem law_at {l : PySem.W.OpenLaw} {w : World} {K : PySem.W.Frag} {mg : Str → Option Value} {h : Heap} {fa c1 c2 c3 P1 P2 P3 : Addr} (hl : l.prog = PR) (hfa : mg "law" = some (.ref fa)) (D : Defs K w mg c1 c2 c3)
    (e1 : h.get? P1 = some { cls := .none, data := .fields #[] }) (e2 : h.get? P2 = some { cls := .none, data := .fields #[] }) (e3 : h.get? P3 = some { cls := .none, data := .fields #[] })
    (n1 : K.lookup P1 = none) (n2 : K.lookup P2 = none) (n3 : K.lookup P3 = none) (k1 : PySem.W.CodeHd h c1 P1) (k2 : PySem.W.CodeHd h c2 P2) (k3 : PySem.W.CodeHd h c3 P3)
    (x12 : P1 ≠ P2) (x13 : P1 ≠ P3) (x23 : P2 ≠ P3) : LawAtG l w K 91 63 mg fa h := by
  refine ⟨[(c1, P1), (c2, P2), (c3, P3)], spLaw [(P1, "sorted_items.<locals>.<lambda>"), (P2, "raised.<locals>.lift"), (P3, "_law_joined.<locals>.<lambda>")] K, ?_, ?_, ?_, fun H a ns hlen hH hS => ?_, fun base KB NB TB => ?_⟩
  · intro p hp
    simp only [List.mem_cons, List.not_mem_nil, or_false] at hp
    rcases hp with rfl | rfl | rfl
    · exact e1
    · exact e2
    · exact e3
  · intro p hp
    simp only [List.mem_cons, List.not_mem_nil, or_false] at hp
    rcases hp with rfl | rfl | rfl
    · exact n1
    · exact n2
    · exact n3
  · intro p hp
    simp only [List.mem_cons, List.not_mem_nil, or_false] at hp
    rcases hp with rfl | rfl | rfl
    · exact k1
    · exact k2
    · exact k3
  · refine ⟨a, ns, rfl, hS, fun p hp => ?_, fun _ => rfl⟩
    unfold nT at hp
    simp only [List.map_cons, List.map_nil, List.mem_cons, List.not_mem_nil, or_false] at hp
    rcases hp with rfl | rfl | rfl
    · exact tab_start (hH (c1, P1) (by simp))
    · exact tab_start (hH (c2, P2) (by simp))
    · exact tab_start (hH (c3, P3) (by simp))
  · have kt : Kit l.prog w K mg base [(P1, "sorted_items.<locals>.<lambda>"), (P2, "raised.<locals>.lift"), (P3, "_law_joined.<locals>.<lambda>")] :=
      kit_of D ⟨TB (c1, P1) (by simp), by simp, fun p hp e => ?_⟩ ⟨TB (c2, P2) (by simp), by simp, fun p hp e => ?_⟩ ⟨TB (c3, P3) (by simp), by simp, fun p hp e => ?_⟩
    · obtain ⟨g, F, hm, _⟩ := ok_law D.d_law D.txt kt
      rw [hfa] at hm
      cases hm
      exact F
    all_goals
      simp only [List.mem_cons, List.not_mem_nil, or_false] at hp
      rcases hp with rfl | rfl | rfl
      all_goals first
        | rfl
        | exact absurd e x12
        | exact absurd e x13
        | exact absurd e x23
        | exact absurd e.symm x12
        | exact absurd e.symm x13
        | exact absurd e.symm x23
theorem txt_mk {K : PySem.W.Frag} {mg : Str → Option Value} {h : Heap} {t1 t2 t3 : Tok} (X : K.In h) (G : h.Ns mainGlobals mg) (z_isinstance : PySem.W.nsIn K mainGlobals "isinstance" = some none) (z_len : PySem.W.nsIn K mainGlobals "len" = some none) (z_all : PySem.W.nsIn K mainGlobals "all" = some none) (z_any : PySem.W.nsIn K mainGlobals "any" = some none) (z_sum : PySem.W.nsIn K mainGlobals "sum" = some none) (z_sorted : PySem.W.nsIn K mainGlobals "sorted" = some none) (z_list : PySem.W.nsIn K mainGlobals "list" = some none) (z_tuple : PySem.W.nsIn K mainGlobals "tuple" = some none) (z_enumerate : PySem.W.nsIn K mainGlobals "enumerate" = some none) (z_repr : PySem.W.nsIn K mainGlobals "repr" = some none) (z_int : PySem.W.nsIn K mainGlobals "int" = some none) (z_range : PySem.W.nsIn K mainGlobals "range" = some none) (z_str : PySem.W.nsIn K mainGlobals "str" = some none) (z_bool : PySem.W.nsIn K mainGlobals "bool" = some none)
    (mw : PySem.W.nsIn K mainGlobals "MOST_WORD" = some (some (.int 8 t1))) (mc : PySem.W.nsIn K mainGlobals "MOST_COPIES" = some (some (.int 1000000000000000000000000000000 t2))) (sm : PySem.W.nsIn K mainGlobals "SMALL" = some (some (.str "abcdefghijklmnopqrstuvwxyz" t3))) : Txt mg :=
  Txt.mk (PySem.W.mg_none_of X G z_isinstance) (PySem.W.mg_none_of X G z_len) (PySem.W.mg_none_of X G z_all) (PySem.W.mg_none_of X G z_any) (PySem.W.mg_none_of X G z_sum) (PySem.W.mg_none_of X G z_sorted) (PySem.W.mg_none_of X G z_list) (PySem.W.mg_none_of X G z_tuple) (PySem.W.mg_none_of X G z_enumerate) (PySem.W.mg_none_of X G z_repr) (PySem.W.mg_none_of X G z_int) (PySem.W.mg_none_of X G z_range) (PySem.W.mg_none_of X G z_str) (PySem.W.mg_none_of X G z_bool) ⟨_, PySem.W.mg_of X G mw⟩ ⟨_, PySem.W.mg_of X G mc⟩ ⟨_, PySem.W.mg_of X G sm⟩
theorem rks_mk {K : PySem.W.Frag} {w : World} {mg : Str → Option Value} {h : Heap} {d : Addr} {es : Array DictEntry} {n : Nat} {t1 t2 t3 t4 : Tok} (X : K.In h) (G : h.Ns mainGlobals mg) (r : PySem.W.nsIn K mainGlobals "RANKS" = some (some (.ref d)))
    (l : K.lookup d = some ⟨.type "dict", none, .dict es n, #[]⟩) (q : PySem.W.KeysLit w.params es.toList) (e1 : PySem.W.nsIn K d "name" = some (some (.int 0 t1))) (e2 : PySem.W.nsIn K d "got" = some (some (.int 2 t2))) (e3 : PySem.W.nsIn K d "letter" = some (some (.int 3 t3))) (e4 : PySem.W.nsIn K d "wait" = some (some (.int 4 t4))) : Rks K w mg :=
  ⟨_, PySem.W.mg_of X G r, ⟨_, _, _, l, q, e1, _, rfl⟩, ⟨_, _, _, l, q, e2, _, rfl⟩, ⟨_, _, _, l, q, e3, _, rfl⟩, ⟨_, _, _, l, q, e4, _, rfl⟩⟩
end G6
open PySem PySem.W PyProof.Rows
set_option maxRecDepth 100000 in
set_option maxHeartbeats 0 in
theorem PySem.Challenge.cw_sealedplans_k55_whole_greatest_roots_holds : PySem.Challenge.rw_sealedplans_k55_whole_greatest_roots.Holds := by
  w_on; o_law; k_head; (case hw => w_witness2)
  k_fill
  refine G6.walk_ofG (l := PySem.Challenge.rw_sealedplans_k55_whole_greatest_roots) (n := 63) (k := 91) rfl (by decide) rfl ⟨rfl, by decide, by decide⟩ (fun w h Y => PySem.W.km_in_of Y) ?F
  case F =>
    intro w mg fa h Y KX G hmg
    have hT8 := PySem.W.km_tabs_of Y
    refine' G6.law_at rfl hmg ?D (hT8 132 (by k_mem)) (hT8 144 (by k_mem)) (hT8 246 (by k_mem)) ?n1 ?n2 ?n3 ?k1 ?k2 ?k3 (by decide) (by decide) (by decide)
    case D =>
      refine' G6.Defs.mk ?txt ?rks ?d_is_integer ?d_is_within ?d_is_pair ?d_is_triple ?d_is_word ?d_is_door ?d_is_part ?d_is_plan_in ?d_check_plan ?d_check_count ?d_part_key ?d_plan_key ?d_sorted_items ?d_mapped ?d_raised ?d_folded ?d_plain_of ?d_bag ?d_root_of ?d_times ?d_root ?d_greatest_root ?d__law_tape ?d__law_pick ?d__law_plan ?d__law_part ?d__law_part_size ?d__law_size ?d__law_raise ?d__law_key ?d__law_joined ?d__law_form ?d__law_same ?d__law_hidden ?d__law_scaled ?d__law_shared ?d_law
      (case d_is_integer => refine' G6.defN_mk KX G G6.b_is_integer ?a ?l ?c ?k; (case a => k_is); (case l => k_is); (case c => k_is); (case k => k_is))
      (case d_is_within => refine' G6.defN_mk KX G G6.b_is_within ?a ?l ?c ?k; (case a => k_is); (case l => k_is); (case c => k_is); (case k => k_is))
      (case d_is_pair => refine' G6.defN_mk KX G G6.b_is_pair ?a ?l ?c ?k; (case a => k_is); (case l => k_is); (case c => k_is); (case k => k_is))
      (case d_is_triple => refine' G6.defN_mk KX G G6.b_is_triple ?a ?l ?c ?k; (case a => k_is); (case l => k_is); (case c => k_is); (case k => k_is))
      (case d_is_word => refine' G6.defN_mk KX G G6.b_is_word ?a ?l ?c ?k; (case a => k_is); (case l => k_is); (case c => k_is); (case k => k_is))
      (case d_is_door => refine' G6.defN_mk KX G G6.b_is_door ?a ?l ?c ?k; (case a => k_is); (case l => k_is); (case c => k_is); (case k => k_is))
      (case d_is_part => refine' G6.defN_mk KX G G6.b_is_part ?a ?l ?c ?k; (case a => k_is); (case l => k_is); (case c => k_is); (case k => k_is))
      (case d_is_plan_in => refine' G6.defN_mk KX G G6.b_is_plan_in ?a ?l ?c ?k; (case a => k_is); (case l => k_is); (case c => k_is); (case k => k_is))
      (case d_check_plan => refine' G6.defN_mk KX G G6.b_check_plan ?a ?l ?c ?k; (case a => k_is); (case l => k_is); (case c => k_is); (case k => k_is))
      (case d_check_count => refine' G6.defN_mk KX G G6.b_check_count ?a ?l ?c ?k; (case a => k_is); (case l => k_is); (case c => k_is); (case k => k_is))
      (case d_part_key => refine' G6.defN_mk KX G G6.b_part_key ?a ?l ?c ?k; (case a => k_is); (case l => k_is); (case c => k_is); (case k => k_is))
      (case d_plan_key => refine' G6.defN_mk KX G G6.b_plan_key ?a ?l ?c ?k; (case a => k_is); (case l => k_is); (case c => k_is); (case k => k_is))
      (case d_sorted_items => refine' G6.defC_mk KX G G6.b_sorted_items ?a ?l ?c ?k; (case a => k_is); (case l => k_is); (case c => k_is); (case k => k_is))
      (case d_mapped => refine' G6.defN_mk KX G G6.b_mapped ?a ?l ?c ?k; (case a => k_is); (case l => k_is); (case c => k_is); (case k => k_is))
      (case d_raised => refine' G6.defC_mk KX G G6.b_raised ?a ?l ?c ?k; (case a => k_is); (case l => k_is); (case c => k_is); (case k => k_is))
      (case d_folded => refine' G6.defN_mk KX G G6.b_folded ?a ?l ?c ?k; (case a => k_is); (case l => k_is); (case c => k_is); (case k => k_is))
      (case d_plain_of => refine' G6.defN_mk KX G G6.b_plain_of ?a ?l ?c ?k; (case a => k_is); (case l => k_is); (case c => k_is); (case k => k_is))
      (case d_bag => refine' G6.defN_mk KX G G6.b_bag ?a ?l ?c ?k; (case a => k_is); (case l => k_is); (case c => k_is); (case k => k_is))
      (case d_root_of => refine' G6.defN_mk KX G G6.b_root_of ?a ?l ?c ?k; (case a => k_is); (case l => k_is); (case c => k_is); (case k => k_is))
      (case d_times => refine' G6.defN_mk KX G G6.b_times ?a ?l ?c ?k; (case a => k_is); (case l => k_is); (case c => k_is); (case k => k_is))
      (case d_root => refine' G6.defN_mk KX G G6.b_root ?a ?l ?c ?k; (case a => k_is); (case l => k_is); (case c => k_is); (case k => k_is))
      (case d_greatest_root => refine' G6.defN_mk KX G G6.b_greatest_root ?a ?l ?c ?k; (case a => k_is); (case l => k_is); (case c => k_is); (case k => k_is))
      (case d__law_tape => refine' G6.defN_mk KX G G6.b__law_tape ?a ?l ?c ?k; (case a => k_is); (case l => k_is); (case c => k_is); (case k => k_is))
      (case d__law_pick => refine' G6.defN_mk KX G G6.b__law_pick ?a ?l ?c ?k; (case a => k_is); (case l => k_is); (case c => k_is); (case k => k_is))
      (case d__law_plan => refine' G6.defN_mk KX G G6.b__law_plan ?a ?l ?c ?k; (case a => k_is); (case l => k_is); (case c => k_is); (case k => k_is))
      (case d__law_part => refine' G6.defN_mk KX G G6.b__law_part ?a ?l ?c ?k; (case a => k_is); (case l => k_is); (case c => k_is); (case k => k_is))
      (case d__law_part_size => refine' G6.defN_mk KX G G6.b__law_part_size ?a ?l ?c ?k; (case a => k_is); (case l => k_is); (case c => k_is); (case k => k_is))
      (case d__law_size => refine' G6.defN_mk KX G G6.b__law_size ?a ?l ?c ?k; (case a => k_is); (case l => k_is); (case c => k_is); (case k => k_is))
      (case d__law_raise => refine' G6.defN_mk KX G G6.b__law_raise ?a ?l ?c ?k; (case a => k_is); (case l => k_is); (case c => k_is); (case k => k_is))
      (case d__law_key => refine' G6.defN_mk KX G G6.b__law_key ?a ?l ?c ?k; (case a => k_is); (case l => k_is); (case c => k_is); (case k => k_is))
      (case d__law_joined => refine' G6.defC_mk KX G G6.b__law_joined ?a ?l ?c ?k; (case a => k_is); (case l => k_is); (case c => k_is); (case k => k_is))
      (case d__law_form => refine' G6.defN_mk KX G G6.b__law_form ?a ?l ?c ?k; (case a => k_is); (case l => k_is); (case c => k_is); (case k => k_is))
      (case d__law_same => refine' G6.defN_mk KX G G6.b__law_same ?a ?l ?c ?k; (case a => k_is); (case l => k_is); (case c => k_is); (case k => k_is))
      (case d__law_hidden => refine' G6.defN_mk KX G G6.b__law_hidden ?a ?l ?c ?k; (case a => k_is); (case l => k_is); (case c => k_is); (case k => k_is))
      (case d__law_scaled => refine' G6.defN_mk KX G G6.b__law_scaled ?a ?l ?c ?k; (case a => k_is); (case l => k_is); (case c => k_is); (case k => k_is))
      (case d__law_shared => refine' G6.defN_mk KX G G6.b__law_shared ?a ?l ?c ?k; (case a => k_is); (case l => k_is); (case c => k_is); (case k => k_is))
      (case d_law => refine' G6.defN_mk KX G G6.b_law ?a ?l ?c ?k; (case a => k_is); (case l => k_is); (case c => k_is); (case k => k_is))
      (case txt =>
        refine' G6.txt_mk KX G ?z_isinstance ?z_len ?z_all ?z_any ?z_sum ?z_sorted ?z_list ?z_tuple ?z_enumerate ?z_repr ?z_int ?z_range ?z_str ?z_bool ?mw ?mc ?sm
        (case z_isinstance => k_is)
        (case z_len => k_is)
        (case z_all => k_is)
        (case z_any => k_is)
        (case z_sum => k_is)
        (case z_sorted => k_is)
        (case z_list => k_is)
        (case z_tuple => k_is)
        (case z_enumerate => k_is)
        (case z_repr => k_is)
        (case z_int => k_is)
        (case z_range => k_is)
        (case z_str => k_is)
        (case z_bool => k_is)
        (case mw => k_is); (case mc => k_is); (case sm => k_is))
      (case rks =>
        refine' G6.rks_mk KX G ?r ?l ?kl ?e1 ?e2 ?e3 ?e4
        (case r => k_is); (case l => k_is); (case e1 => k_is); (case e2 => k_is); (case e3 => k_is); (case e4 => k_is)
        (case kl => exact ⟨⟨_, _, rfl, rfl⟩, ⟨_, _, rfl, rfl⟩, ⟨_, _, rfl, rfl⟩, ⟨_, _, rfl, rfl⟩, ⟨_, _, rfl, rfl⟩, trivial⟩))
    (case n1 => kernel_rfl); (case n2 => kernel_rfl); (case n3 => kernel_rfl)
    (case k1 => exact PySem.W.codeHd_of_K KX (by kernel_rfl)); (case k2 => exact PySem.W.codeHd_of_K KX (by kernel_rfl)); (case k3 => exact PySem.W.codeHd_of_K KX (by kernel_rfl))

