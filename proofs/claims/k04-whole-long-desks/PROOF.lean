import PyProof.Rows.All
import Wide.All
import OpenK.AllK
import Wide.FinOn
import KE.KWithOwn
import HandS.ForMost
import HandS.Exc
import HandS.TryOnly
import HandS.TryMany
import HandS.ExcOwn
import HandS.Finally
import HandS.HotCalls
import HandS.Defaults
import HandS.WordsExc
import HandS.Nested
import KE.KDictPairs
import KE.GoesMore
import KE.GoesEnum
import HandS.Comp
import HandS.DictComp
import HandS.ExcBuiltin
import HandS.MakeKw
import HandS.Property
import HandS.Codes
import HandS.IsInst
import HandS.Star
import HandS.Style
import HandS.Flow
import HandS.DictTup
import HandS.TupAny
import HandS.TupLen
import HandS.Deep
import HandS.Wide
import HandS.More
import HandS.Zip
import HandS.Evl
import HandS.HeadHook4
import PySem.Challenge.RW_plainseams_k04_whole_long_desks
import HandS.WordsDict
import HandS.MakeKwOnly
import KE.KStateDown
import HandS.Head0
import HandS.Head1
import HandS.Head2
import HandS.HeadEnd
import HandS.HeadHook1
import HandS.HeadHook2
import HandS.HeadHook3
import HandS.HeadWalk
import HandS.EndTab
set_option Elab.async false
section T_DMath
set_option linter.all false
/-! Plain mathematics: the program's maker and the law's maker agree on tame texts. -/
namespace Des
/-- a model: classes, parts (sign, one, other), closed signs, whether the way is joined -/
structure Mo where
  cl : List Nat
  pa : List (Nat × Nat × Nat)
  sh : List Nat
  jn : Bool
def Mo.n (m : Mo) : Nat := m.cl.length
def Mo.c (m : Mo) (s : Nat) : Nat := m.cl.getD s 0
def Mo.two (m : Mo) (s : Nat) : Option (Nat × Nat) := m.pa.lookup s
structure Mo.Ok (m : Mo) : Prop where
  n1 : 1 ≤ m.cl.length
  n6 : m.cl.length ≤ 6
  c2 : ∀ s, m.c s ≤ 2
  asc : m.pa.Pairwise (fun a b => a.1 < b.1)
  par : ∀ p ∈ m.pa, p.1 < m.n ∧ p.2.1 < p.1 ∧ p.2.2 < p.1 ∧ m.c p.1 = 0 ∧ m.c p.2.1 = 0
  dist : (m.pa.map (·.2)).Nodup
  shs : m.sh.Pairwise (· < ·)
  shp : ∀ s ∈ m.sh, s ∈ m.pa.map (·.1)
/-! ### lookups -/
theorem look_mem {α : Type} {s : Nat} {v : α} : ∀ {l : List (Nat × α)}, l.lookup s = some v → (s, v) ∈ l
  | [], h => by cases h
  | (b, u) :: r, h => by
    have h2 : (match s == b with | true => some u | false => r.lookup s) = some v := h
    cases q : (s == b) with
    | true =>
      rw [q] at h2
      have e : u = v := Option.some.inj h2
      rw [beq_iff_eq.mp q, e]
      exact List.mem_cons_self
    | false =>
      rw [q] at h2
      exact List.mem_cons_of_mem _ (look_mem h2)
theorem look_none {α : Type} {s : Nat} : ∀ {l : List (Nat × α)}, l.lookup s = none → s ∉ l.map (·.1)
  | [], _ => by simp
  | (b, u) :: r, h => by
    have h2 : (match s == b with | true => some u | false => r.lookup s) = none := h
    cases q : (s == b) with
    | true =>
      rw [q] at h2
      cases h2
    | false =>
      rw [q] at h2
      have ih := look_none h2
      have ne : s ≠ b := fun e => by rw [e] at q; simp at q
      simp only [List.map_cons, List.mem_cons, not_or]
      exact ⟨ne, ih⟩
theorem look_of {α : Type} {s : Nat} {v : α} : ∀ {l : List (Nat × α)}, l.Pairwise (fun a b => a.1 < b.1) → (s, v) ∈ l → l.lookup s = some v
  | [], _, h => by cases h
  | (b, u) :: r, hp, h => by
    show (match s == b with | true => some u | false => r.lookup s) = some v
    rw [List.pairwise_cons] at hp
    rcases List.mem_cons.mp h with e | h
    · injection e with e1 e2
      rw [e1, e2]
      simp
    · have lt := hp.1 _ h
      have q : (s == b) = false := by
        simp only [beq_eq_false_iff_ne]
        show s ≠ b
        have : b < s := lt
        omega
      rw [q]
      exact look_of hp.2 h
theorem Mo.Ok.two (m : Mo) (k : m.Ok) {s a b : Nat} (h : m.two s = some (a, b)) : s < m.n ∧ a < s ∧ b < s ∧ m.c s = 0 ∧ m.c a = 0 := k.par _ (look_mem h)
/-! ### bare signs -/
def Mo.bareF (m : Mo) : Nat → Nat → List Nat
  | 0, s => [s]
  | k + 1, s => match m.two s with
    | none => [s]
    | some (a, b) => m.bareF k a ++ m.bareF k b
theorem bareF_fuel {m : Mo} (ok : m.Ok) : ∀ (k j s : Nat), s < k → s < j → m.bareF k s = m.bareF j s
  | 0, _, _, h, _ => by omega
  | _ + 1, 0, _, _, h => by omega
  | k + 1, j + 1, s, h1, h2 => by
    unfold Mo.bareF
    cases e : m.two s with
    | none => rfl
    | some p =>
      obtain ⟨a, b⟩ := p
      have z := ok.two m e
      show m.bareF k a ++ m.bareF k b = m.bareF j a ++ m.bareF j b
      rw [bareF_fuel ok k j a (by omega) (by omega), bareF_fuel ok k j b (by omega) (by omega)]
def Mo.bare (m : Mo) (s : Nat) : List Nat := m.bareF (s + 1) s
theorem bare_none {m : Mo} {s : Nat} (h : m.two s = none) : m.bare s = [s] := by
  unfold Mo.bare Mo.bareF
  rw [h]
theorem bare_some {m : Mo} (ok : m.Ok) {s a b : Nat} (h : m.two s = some (a, b)) : m.bare s = m.bare a ++ m.bare b := by
  have z := ok.two m h
  have e : m.bare s = m.bareF s a ++ m.bareF s b := by
    unfold Mo.bare
    show (match m.two s with | none => [s] | some (a, b) => m.bareF s a ++ m.bareF s b) = _
    rw [h]
  rw [e, bareF_fuel ok s (a + 1) a (by omega) (by omega), bareF_fuel ok s (b + 1) b (by omega) (by omega)]
  rfl
theorem bare_lt {m : Mo} (ok : m.Ok) : ∀ (k s : Nat), s < k → s < m.n → ∀ x ∈ m.bare s, x < m.n
  | 0, _, h, _ => by omega
  | k + 1, s, h, hn => by
    cases e : m.two s with
    | none =>
      rw [bare_none e]
      intro x hx
      rw [List.mem_singleton] at hx
      omega
    | some p =>
      obtain ⟨a, b⟩ := p
      have z := ok.two m e
      rw [bare_some ok e]
      intro x hx
      rcases List.mem_append.mp hx with h | h
      · exact bare_lt ok k a (by omega) (by omega) x h
      · exact bare_lt ok k b (by omega) (by omega) x h
/-- at most 2 ^ s bare signs -/
theorem bare_len {m : Mo} (ok : m.Ok) : ∀ (k s : Nat), s < k → (m.bare s).length ≤ 2 ^ s
  | 0, _, h => by omega
  | k + 1, s, h => by
    cases e : m.two s with
    | none =>
      rw [bare_none e]
      exact Nat.one_le_two_pow
    | some p =>
      obtain ⟨a, b⟩ := p
      have z := ok.two m e
      rw [bare_some ok e, List.length_append]
      have h1 := bare_len ok k a (by omega)
      have h2 := bare_len ok k b (by omega)
      have h3 : 2 ^ a ≤ 2 ^ (s - 1) := Nat.pow_le_pow_right (by decide) (by omega)
      have h4 : 2 ^ b ≤ 2 ^ (s - 1) := Nat.pow_le_pow_right (by decide) (by omega)
      have h5 : 2 ^ s = 2 ^ (s - 1) + 2 ^ (s - 1) := by
        have : s = (s - 1) + 1 := by omega
        rw [this, Nat.pow_succ]
        simp only [Nat.add_sub_cancel]
        omega
      omega
theorem bare_len64 {m : Mo} (ok : m.Ok) {s : Nat} (h : s < m.n) : (m.bare s).length ≤ 64 := by
  have h1 := bare_len ok (s + 1) s (by omega)
  have h2 : 2 ^ s ≤ 2 ^ 6 := Nat.pow_le_pow_right (by decide) (by have := ok.n6; unfold Mo.n at h; omega)
  exact Nat.le_trans h1 h2
def Mo.flat (m : Mo) (t : List Nat) : List Nat := t.flatMap m.bare
theorem flat_nil {m : Mo} : m.flat [] = [] := rfl
theorem flat_cons {m : Mo} {s : Nat} {t : List Nat} : m.flat (s :: t) = m.bare s ++ m.flat t := by unfold Mo.flat; rw [List.flatMap_cons]
theorem flat_snoc {m : Mo} {s : Nat} {t : List Nat} : m.flat (t ++ [s]) = m.flat t ++ m.bare s := by unfold Mo.flat; rw [List.flatMap_append]; simp
theorem flat_app {m : Mo} {t u : List Nat} : m.flat (t ++ u) = m.flat t ++ m.flat u := by unfold Mo.flat; rw [List.flatMap_append]
theorem flat_lt {m : Mo} (ok : m.Ok) {t : List Nat} (h : ∀ s ∈ t, s < m.n) : ∀ x ∈ m.flat t, x < m.n := fun x hx => by
  obtain ⟨s, hs, hx⟩ := List.mem_flatMap.mp hx
  exact bare_lt ok (s + 1) s (by omega) (h s hs) x hx
theorem flat_len {m : Mo} (ok : m.Ok) : ∀ {t : List Nat}, (∀ s ∈ t, s < m.n) → (m.flat t).length ≤ 64 * t.length
  | [], _ => by simp [flat_nil]
  | s :: t, h => by
    rw [flat_cons, List.length_append, List.length_cons]
    have h1 := bare_len64 ok (h s (by simp))
    have h2 := flat_len ok (t := t) fun x hx => h x (by simp [hx])
    omega
/-! ### tame -/
def Mo.run (m : Mo) (r x : Nat) : Nat := if 0 < m.c x then r + 1 else 0
def Mo.tameB (m : Mo) : Nat → List Nat → Bool
  | _, [] => true
  | r, x :: xs => decide (m.run r x ≤ 2) && m.tameB (m.run r x) xs
def Mo.runs (m : Mo) (r : Nat) (l : List Nat) : Nat := l.foldl m.run r
theorem tameB_app {m : Mo} : ∀ {l l' : List Nat} {r : Nat}, m.tameB r (l ++ l') = (m.tameB r l && m.tameB (m.runs r l) l')
  | [], _, _ => by simp [Mo.tameB, Mo.runs]
  | x :: l, l', r => by
    show (decide (m.run r x ≤ 2) && m.tameB (m.run r x) (l ++ l')) = _
    rw [tameB_app (l := l)]
    show _ = ((decide (m.run r x ≤ 2) && m.tameB (m.run r x) l) && m.tameB (m.runs (m.run r x) l) l')
    rw [Bool.and_assoc]
def Mo.tame (m : Mo) (t : List Nat) : Bool := m.tameB 0 (m.flat t)
/-! ### the program's maker -/
def Mo.pair0 (m : Mo) (a b : Nat) : Option Nat := ((m.pa.filter fun p => p.2 == (a, b) && !m.sh.contains p.1).map (·.1)).head?
def Mo.pair (m : Mo) (a b : Nat) : Option Nat := if m.jn then m.pair0 a b else none
theorem pair0_lt {m : Mo} (ok : m.Ok) {a b z : Nat} (h : m.pair0 a b = some z) : z < m.n := by
  unfold Mo.pair0 at h
  have h1 := List.mem_of_mem_head? h
  obtain ⟨p, hp, e⟩ := List.mem_map.mp h1
  have := (ok.par p (List.mem_filter.mp hp).1).1
  omega
theorem pair_lt {m : Mo} (ok : m.Ok) {a b z : Nat} (h : m.pair a b = some z) : z < m.n := by
  unfold Mo.pair at h
  split at h
  · exact pair0_lt ok h
  · cases h
def Mo.free (m : Mo) (kept : List Nat) (x : Nat) : Bool := match kept.getLast? with
  | none => true
  | some k => decide (m.c k < m.c x)
def Mo.hStep (m : Mo) (st : Nat × List Nat) (x : Nat) : Nat × List Nat := match m.pair st.1 x with
  | some z => if m.free st.2 x then (z, st.2) else (st.1, st.2 ++ [x])
  | none => (st.1, st.2 ++ [x])
abbrev Sta := Option Nat × List Nat
def Mo.heldB (m : Mo) (x : Nat) (ms : List Nat) : List Nat := (ms.foldl m.hStep (x, [])).1 :: (ms.foldl m.hStep (x, [])).2
def Mo.held (m : Mo) (st : Sta) : List Nat := match st.1 with
  | none => st.2
  | some x => m.heldB x st.2
def Mo.ins (m : Mo) (ms : List Nat) (x : Nat) : List Nat := ms.take (ms.filter fun y => decide (m.c y ≤ m.c x)).length ++ x :: ms.drop (ms.filter fun y => decide (m.c y ≤ m.c x)).length
def Mo.rdB (m : Mo) (st : Sta) (x : Nat) : Option (Sta × List Nat) :=
  if 0 < m.c x then (if st.2.length = 2 then none else some ((st.1, m.ins st.2 x), []))
  else if m.jn = true ∧ (m.held st).length = 1 ∧ st.1.isSome = true then match m.pair0 ((m.held st).headD 0) x with
    | some z => some ((some z, []), [])
    | none => some ((some x, []), m.held st)
  else some ((some x, []), m.held st)
def Mo.rdL (m : Mo) : Sta → List Nat → Option (Sta × List Nat)
  | st, [] => some (st, [])
  | st, x :: xs => match m.rdB st x with
    | none => none
    | some (st1, o) => match m.rdL st1 xs with
      | none => none
      | some (st2, o2) => some (st2, o ++ o2)
theorem rdL_app {m : Mo} : ∀ {l l' : List Nat} {st st1 st2 : Sta} {o o2 : List Nat}, m.rdL st l = some (st1, o) → m.rdL st1 l' = some (st2, o2) → m.rdL st (l ++ l') = some (st2, o ++ o2)
  | [], l', st, st1, st2, o, o2, h1, h2 => by
    have e : (st, ([] : List Nat)) = (st1, o) := Option.some.inj h1
    injection e with e1 e2
    rw [e1, ← e2]
    exact h2
  | x :: l, l', st, st1, st2, o, o2, h1, h2 => by
    unfold Mo.rdL at h1
    show (match m.rdB st x with | none => none | some (st1, o) => match m.rdL st1 (l ++ l') with | none => none | some (st2, o2) => some (st2, o ++ o2)) = _
    cases e : m.rdB st x with
    | none => rw [e] at h1; cases h1
    | some q =>
      obtain ⟨sa, oa⟩ := q
      rw [e] at h1
      dsimp only at h1 ⊢
      cases e2 : m.rdL sa l with
      | none => rw [e2] at h1; cases h1
      | some q2 =>
        obtain ⟨sb, ob⟩ := q2
        rw [e2] at h1
        have e3 : (sb, oa ++ ob) = (st1, o) := Option.some.inj h1
        injection e3 with e4 e5
        rw [rdL_app e2 (by rw [e4]; exact h2)]
        show some (st2, oa ++ (ob ++ o2)) = _
        rw [← e5, List.append_assoc]
theorem rdL_left {m : Mo} : ∀ {l l' : List Nat} {st st2 : Sta} {o : List Nat}, m.rdL st (l ++ l') = some (st2, o) → ∃ st1 o1 o2, m.rdL st l = some (st1, o1) ∧ m.rdL st1 l' = some (st2, o2) ∧ o = o1 ++ o2
  | [], l', st, st2, o, h => ⟨st, [], o, rfl, h, rfl⟩
  | x :: l, l', st, st2, o, h => by
    have h : (match m.rdB st x with | none => none | some (st1, o) => match m.rdL st1 (l ++ l') with | none => none | some (st2, o2) => some (st2, o ++ o2)) = some (st2, o) := h
    cases e : m.rdB st x with
    | none => rw [e] at h; cases h
    | some q =>
      obtain ⟨sa, oa⟩ := q
      rw [e] at h
      dsimp only at h ⊢
      cases e2 : m.rdL sa (l ++ l') with
      | none => rw [e2] at h; cases h
      | some q2 =>
        obtain ⟨sb, ob⟩ := q2
        rw [e2] at h
        have e3 : (sb, oa ++ ob) = (st2, o) := Option.some.inj h
        injection e3 with e4 e5
        obtain ⟨st1, o1, o2, h1, h2, h3⟩ := rdL_left e2
        refine ⟨st1, oa ++ o1, o2, ?_, by rw [← e4]; exact h2, by rw [← e5, h3, List.append_assoc]⟩
        show (match m.rdB st x with | none => none | some (st1, o) => match m.rdL st1 l with | none => none | some (st2, o2) => some (st2, o ++ o2)) = _
        rw [e]
        dsimp only
        rw [h1]
def Mo.made (m : Mo) (t : List Nat) : List Nat := match m.rdL (none, []) (m.flat t) with
  | some (st, o) => o ++ m.held st
  | none => []
/-! ### the law's maker -/
def Mo.swapAt (m : Mo) (l : List Nat) (k : Nat) : List Nat := if m.c (l.getD (k + 1) 0) < m.c (l.getD k 0) ∧ 0 < m.c (l.getD (k + 1) 0) then (l.set k (l.getD (k + 1) 0)).set (k + 1) (l.getD k 0) else l
def Mo.passN (m : Mo) (l : List Nat) (n : Nat) : List Nat := (List.range n).foldl m.swapAt l
def Mo.pass (m : Mo) (l : List Nat) : List Nat := m.passN l (l.length - 1)
abbrev Jst := List Nat × Option Nat × List Nat
def Mo.jLate (m : Mo) (st : Jst) (x : Nat) : Option Nat := match st.2.1 with
  | none => none
  | some i => m.pair (st.1.getD i 0) x
def Mo.jFree (m : Mo) (kept : List Nat) (x : Nat) : Bool := kept.isEmpty || (decide (0 < m.c x) && kept.all fun k => decide (0 < k) && decide (k < m.c x))
def Mo.jStep (m : Mo) (st : Jst) (x : Nat) : Jst :=
  if (m.jLate st x).isSome && m.jFree st.2.2 x then (st.1.set (st.2.1.getD 0) ((m.jLate st x).getD 0), st.2.1, st.2.2)
  else if m.c x = 0 then (st.1 ++ [x], some st.1.length, []) else (st.1 ++ [x], st.2.1, st.2.2 ++ [m.c x])
def Mo.joinL (m : Mo) (l : List Nat) : List Nat := (l.foldl m.jStep ([], none, [])).1
def Mo.plain (m : Mo) (t : List Nat) : List Nat := m.joinL (m.pass (m.pass (m.flat t)))
/-! ### the pass by recursion -/
def Mo.bub (m : Mo) : Nat → List Nat → List Nat
  | 0, l => l
  | _ + 1, [] => []
  | _ + 1, [a] => [a]
  | n + 1, a :: b :: r => if m.c b < m.c a ∧ 0 < m.c b then b :: m.bub n (a :: r) else a :: m.bub n (b :: r)
theorem bub_len {m : Mo} : ∀ (n : Nat) (l : List Nat), (m.bub n l).length = l.length
  | 0, l => by simp [Mo.bub]
  | _ + 1, [] => by simp [Mo.bub]
  | _ + 1, [a] => by simp [Mo.bub]
  | n + 1, a :: b :: r => by
    unfold Mo.bub
    split
    · simp [bub_len n (a :: r)]
    · simp [bub_len n (b :: r)]
theorem swap_cons {m : Mo} (x : Nat) (l : List Nat) (k : Nat) : m.swapAt (x :: l) (k + 1) = x :: m.swapAt l k := by
  unfold Mo.swapAt
  simp only [List.getD_cons_succ, List.set_cons_succ]
  split <;> rfl
theorem bub_step {m : Mo} : ∀ (n : Nat) (l : List Nat), n + 1 < l.length → m.swapAt (m.bub n l) n = m.bub (n + 1) l
  | 0, [], h => by simp at h
  | 0, [a], h => by simp at h
  | 0, a :: b :: r, _ => by
    unfold Mo.swapAt Mo.bub
    simp [Mo.bub]
  | n + 1, [], h => by simp at h
  | n + 1, [a], h => by simp at h
  | n + 1, a :: b :: r, h => by
    have e1 : m.bub (n + 1) (a :: b :: r) = if m.c b < m.c a ∧ 0 < m.c b then b :: m.bub n (a :: r) else a :: m.bub n (b :: r) := by
      conv => lhs; unfold Mo.bub
    have e2 : m.bub (n + 1 + 1) (a :: b :: r) = if m.c b < m.c a ∧ 0 < m.c b then b :: m.bub (n + 1) (a :: r) else a :: m.bub (n + 1) (b :: r) := by
      conv => lhs; unfold Mo.bub
    rw [e1, e2]
    simp only [List.length_cons] at h
    split
    · rw [swap_cons, bub_step n (a :: r) (by simp only [List.length_cons]; omega)]
    · rw [swap_cons, bub_step n (b :: r) (by simp only [List.length_cons]; omega)]
theorem passN_bub {m : Mo} (l : List Nat) : ∀ n, n ≤ l.length - 1 → m.passN l n = m.bub n l
  | 0, _ => by simp [Mo.passN, Mo.bub]
  | n + 1, h => by
    unfold Mo.passN
    rw [List.range_succ, List.foldl_append]
    show m.swapAt (m.passN l n) n = _
    rw [passN_bub l n (by omega), bub_step n l (by omega)]
def Mo.bb (m : Mo) (l : List Nat) : List Nat := m.bub (l.length - 1) l
theorem pass_bb {m : Mo} (l : List Nat) : m.pass l = m.bb l := passN_bub l _ (Nat.le_refl _)
theorem bb_nil {m : Mo} : m.bb [] = [] := rfl
theorem bb_one {m : Mo} {a : Nat} : m.bb [a] = [a] := rfl
theorem bb_two {m : Mo} {a b : Nat} {r : List Nat} : m.bb (a :: b :: r) = if m.c b < m.c a ∧ 0 < m.c b then b :: m.bb (a :: r) else a :: m.bb (b :: r) := by
  unfold Mo.bb
  show m.bub (r.length + 1) (a :: b :: r) = _
  conv => lhs; unfold Mo.bub
  simp
/-- behind a base nothing moves -/
theorem bb_base {m : Mo} {y : Nat} {r : List Nat} (h : m.c y = 0) : m.bb (y :: r) = y :: m.bb r := by
  cases r with
  | nil => rfl
  | cons b r => rw [bb_two, if_neg (by omega)]
theorem bb_m1 {m : Mo} {a y : Nat} {r : List Nat} (h : m.c y = 0) : m.bb (a :: y :: r) = a :: y :: m.bb r := by
  rw [bb_two, if_neg (by omega), bb_base h]
def Mo.s2 (m : Mo) (a b : Nat) : List Nat := if m.c b < m.c a then [b, a] else [a, b]
theorem bb_m2 {m : Mo} {a b y : Nat} {r : List Nat} (hb : 0 < m.c b) (h : m.c y = 0) : m.bb (a :: b :: y :: r) = m.s2 a b ++ y :: m.bb r := by
  rw [bb_two]
  unfold Mo.s2
  by_cases q : m.c b < m.c a
  · rw [if_pos ⟨q, hb⟩, bb_m1 h, if_pos q]
    rfl
  · rw [if_neg (fun z => q z.1), bb_m1 h, if_neg q]
    rfl
theorem bb_e2 {m : Mo} {a b : Nat} (hb : 0 < m.c b) : m.bb [a, b] = m.s2 a b := by
  rw [bb_two]
  unfold Mo.s2
  by_cases q : m.c b < m.c a
  · rw [if_pos ⟨q, hb⟩, if_pos q]
    rfl
  · rw [if_neg (fun z => q z.1), if_neg q]
    rfl
theorem s2_idem {m : Mo} {a b : Nat} (ha : 0 < m.c a) (hb : 0 < m.c b) : ∃ c d, m.s2 a b = [c, d] ∧ 0 < m.c c ∧ 0 < m.c d ∧ m.s2 c d = [c, d] ∧ m.c c ≤ m.c d := by
  unfold Mo.s2
  by_cases q : m.c b < m.c a
  · exact ⟨b, a, if_pos q, hb, ha, by rw [if_neg (by omega)], by omega⟩
  · exact ⟨a, b, if_neg q, ha, hb, if_neg q, by omega⟩
/-! ### joining, run by run -/
theorem ins_nil {m : Mo} {x : Nat} : m.ins [] x = [x] := rfl
theorem ins_one {m : Mo} {a b : Nat} : m.ins [a] b = m.s2 a b := by
  unfold Mo.ins Mo.s2
  by_cases q : m.c b < m.c a
  · have : decide (m.c a ≤ m.c b) = false := by simp; omega
    simp [this, q]
  · have : decide (m.c a ≤ m.c b) = true := by simp; omega
    simp [this, q]
/-- the law's state, as a word: given out, the last base, what stands behind it -/
def jst (out : List Nat) (b : Option Nat) (kept : List Nat) (m : Mo) : Jst := match b with
  | none => (out ++ kept, none, kept.map m.c)
  | some x => (out ++ x :: kept, some out.length, kept.map m.c)
theorem getD_mid {out : List Nat} {x : Nat} {r : List Nat} : (out ++ x :: r).getD out.length 0 = x := by
  rw [List.getD_eq_getElem?_getD, List.getElem?_append_right (Nat.le_refl _)]
  simp
theorem set_mid {out : List Nat} {x z : Nat} {r : List Nat} : (out ++ x :: r).set out.length z = out ++ z :: r := by
  rw [List.set_append_right _ _ (Nat.le_refl _)]
  simp
/-- kept marks, none greater than the last one -/
def Srt (m : Mo) (kept : List Nat) : Prop := ∀ k ∈ kept, 0 < m.c k ∧ ∀ l, kept.getLast? = some l → m.c k ≤ m.c l
theorem jFree_eq {m : Mo} {kept : List Nat} {x : Nat} (hx : 0 < m.c x) (hs : Srt m kept) : m.jFree (kept.map m.c) x = m.free kept x := by
  unfold Mo.jFree Mo.free
  cases e : kept.getLast? with
  | none =>
    have : kept = [] := List.getLast?_eq_none_iff.mp e
    subst this
    rfl
  | some l =>
    have ne : kept ≠ [] := fun z => by rw [z] at e; cases e
    have hl : l ∈ kept := List.mem_of_getLast? e
    have he : (kept.map m.c).isEmpty = false := by
      cases kept with
      | nil => exact absurd rfl ne
      | cons a r => rfl
    rw [he, Bool.false_or, decide_eq_true hx, Bool.true_and]
    show _ = decide (m.c l < m.c x)
    by_cases q : m.c l < m.c x
    · rw [decide_eq_true q, List.all_eq_true]
      intro k hk
      obtain ⟨k0, hk0, rfl⟩ := List.mem_map.mp hk
      have z := hs k0 hk0
      have z2 := z.2 l e
      simp only [Bool.and_eq_true, decide_eq_true_eq]
      exact ⟨z.1, by omega⟩
    · rw [decide_eq_false q, List.all_eq_false]
      refine ⟨m.c l, List.mem_map.mpr ⟨l, hl, rfl⟩, ?_⟩
      simp only [Bool.and_eq_true, decide_eq_true_eq]
      exact fun z => q z.2
/-- a mark, joined or put behind -/
theorem jStep_mark {m : Mo} {out : List Nat} {x : Nat} {kept : List Nat} {y : Nat} (hy : 0 < m.c y) (hs : Srt m kept) :
    m.jStep (jst out (some x) kept m) y = jst out (some (m.hStep (x, kept) y).1) (m.hStep (x, kept) y).2 m := by
  unfold Mo.jStep Mo.hStep
  have e1 : m.jLate (jst out (some x) kept m) y = m.pair x y := by
    unfold Mo.jLate jst
    dsimp only
    rw [getD_mid]
  have e2 : m.jFree (jst out (some x) kept m).2.2 y = m.free kept y := jFree_eq hy hs
  rw [e1, e2]
  cases hp : m.pair x y with
  | none =>
    simp only [Option.isSome_none, Bool.false_and, Bool.false_eq_true, if_false]
    rw [if_neg (by omega)]
    unfold jst
    simp
  | some z =>
    by_cases hf : m.free kept y = true
    · rw [hf]
      simp only [Option.isSome_some, Bool.and_self, if_true]
      unfold jst
      dsimp only [Option.getD_some]
      rw [set_mid]
    · have hf' : m.free kept y = false := by simpa using hf
      rw [hf']
      simp only [Bool.and_false, Bool.false_eq_true, if_false]
      rw [if_neg (by omega)]
      unfold jst
      simp
theorem jStep_mark0 {m : Mo} {out kept : List Nat} {y : Nat} (hy : 0 < m.c y) : m.jStep (jst out none kept m) y = jst out none (kept ++ [y]) m := by
  unfold Mo.jStep
  have e1 : m.jLate (jst out none kept m) y = none := rfl
  rw [e1]
  simp only [Option.isSome_none, Bool.false_and, Bool.false_eq_true, if_false]
  rw [if_neg (by omega)]
  unfold jst
  simp
/-- a base -/
theorem jStep_base {m : Mo} {out : List Nat} {b : Option Nat} {kept : List Nat} {y : Nat} (hy : m.c y = 0) :
    m.jStep (jst out b kept m) y = if m.jn = true ∧ kept = [] ∧ b.isSome = true then (match m.pair0 (b.getD 0) y with | some z => jst out (some z) [] m | none => jst (out ++ b.toList ++ kept) (some y) [] m) else jst (out ++ b.toList ++ kept) (some y) [] m := by
  unfold Mo.jStep
  cases b with
  | none =>
    have e1 : m.jLate (jst out none kept m) y = none := rfl
    rw [e1]
    simp only [Option.isSome_none, Bool.false_and, Bool.false_eq_true, if_false]
    rw [if_pos hy, if_neg (by simp)]
    unfold jst
    simp
  | some x =>
    have e1 : m.jLate (jst out (some x) kept m) y = m.pair x y := by
      unfold Mo.jLate jst
      dsimp only
      rw [getD_mid]
    rw [e1]
    have e2 : m.jFree (jst out (some x) kept m).2.2 y = kept.isEmpty := by
      show m.jFree (kept.map m.c) y = _
      unfold Mo.jFree
      rw [decide_eq_false (by omega : ¬ 0 < m.c y)]
      cases kept <;> simp
    rw [e2]
    unfold Mo.pair
    by_cases hj : m.jn = true
    · rw [if_pos hj]
      cases kept with
      | nil =>
        rw [if_pos (show m.jn = true ∧ ([] : List Nat) = [] ∧ (some x).isSome = true from ⟨hj, rfl, rfl⟩)]
        dsimp only [Option.getD_some, List.isEmpty_nil]
        cases hp : m.pair0 x y with
        | none =>
          simp only [Option.isSome_none, Bool.false_and, Bool.false_eq_true, if_false]
          rw [if_pos hy]
          unfold jst
          simp
        | some z =>
          simp only [Option.isSome_some, Bool.and_self, if_true]
          unfold jst
          dsimp only [Option.getD_some]
          rw [set_mid]
          all_goals rfl
      | cons k r =>
        rw [if_neg (show ¬ (m.jn = true ∧ (k :: r) = [] ∧ (some x).isSome = true) from fun z => by simp at z)]
        simp only [List.isEmpty_cons, Bool.and_false, Bool.false_eq_true, if_false]
        rw [if_pos hy]
        unfold jst
        simp
    · rw [if_neg hj, if_neg (show ¬ (m.jn = true ∧ kept = [] ∧ (some x).isSome = true) from fun z => hj z.1)]
      simp only [Option.isSome_none, Bool.false_and, Bool.false_eq_true, if_false]
      rw [if_pos hy]
      unfold jst
      simp
/-! ### marks behind a base, at most two, in order -/
def Mo.hk (m : Mo) (b : Option Nat) (ms : List Nat) : Option Nat × List Nat := match b with
  | none => (none, ms)
  | some x => (some (ms.foldl m.hStep (x, [])).1, (ms.foldl m.hStep (x, [])).2)
theorem held_hk {m : Mo} {b : Option Nat} {ms : List Nat} : m.held (b, ms) = (m.hk b ms).1.toList ++ (m.hk b ms).2 := by
  unfold Mo.held Mo.hk
  cases b with
  | none => rfl
  | some x => rfl
theorem srt_nil {m : Mo} : Srt m [] := fun k h => by cases h
theorem srt_one {m : Mo} {a : Nat} (h : 0 < m.c a) : Srt m [a] := fun k hk => by
  rw [List.mem_singleton] at hk
  subst hk
  exact ⟨h, fun l e => by
    have : k = l := Option.some.inj e
    rw [this]
    exact Nat.le_refl _⟩
theorem hStep_srt {m : Mo} {x y : Nat} (hy : 0 < m.c y) : Srt m (m.hStep (x, []) y).2 := by
  unfold Mo.hStep
  cases hp : m.pair x y with
  | none => exact srt_one hy
  | some z =>
    dsimp only
    split
    · exact srt_nil
    · exact srt_one hy
theorem join0 {m : Mo} {out : List Nat} {b : Option Nat} : jst out b [] m = jst out (m.hk b []).1 (m.hk b []).2 m := by
  cases b <;> rfl
theorem join1 {m : Mo} {out : List Nat} {b : Option Nat} {a : Nat} (ha : 0 < m.c a) : m.jStep (jst out b [] m) a = jst out (m.hk b [a]).1 (m.hk b [a]).2 m := by
  cases b with
  | none => exact jStep_mark0 ha
  | some x => exact jStep_mark ha srt_nil
theorem join2 {m : Mo} {out : List Nat} {b : Option Nat} {a d : Nat} (ha : 0 < m.c a) (hd : 0 < m.c d) : m.jStep (m.jStep (jst out b [] m) a) d = jst out (m.hk b [a, d]).1 (m.hk b [a, d]).2 m := by
  rw [join1 ha]
  cases b with
  | none => exact jStep_mark0 hd
  | some x =>
    have e : (m.hk (some x) [a]).1 = some (m.hStep (x, []) a).1 := rfl
    have e2 : (m.hk (some x) [a]).2 = (m.hStep (x, []) a).2 := rfl
    rw [e, e2, jStep_mark hd (hStep_srt ha)]
    rfl
/-! ### a base is read -/
theorem hk_none {m : Mo} {b : Option Nat} {ms : List Nat} : (m.hk b ms).1.isSome = b.isSome := by cases b <;> rfl
/-- what both do at a base: the same -/
theorem base_both {m : Mo} {out : List Nat} {b : Option Nat} {ms : List Nat} {y : Nat} (hy : m.c y = 0) :
    ∃ z o, m.rdB (b, ms) y = some ((some z, []), o) ∧ m.jStep (jst out (m.hk b ms).1 (m.hk b ms).2 m) y = jst (out ++ o) (some z) [] m := by
  rw [jStep_base hy]
  unfold Mo.rdB
  rw [if_neg (by omega)]
  have eL : (m.held (b, ms)).length = 1 ∧ b.isSome = true ↔ (m.hk b ms).2 = [] ∧ (m.hk b ms).1.isSome = true := by
    rw [held_hk, hk_none]
    cases b with
    | none => simp
    | some x =>
      show ((m.hk (some x) ms).1.toList ++ (m.hk (some x) ms).2).length = 1 ∧ _ ↔ _
      have : (m.hk (some x) ms).1.toList.length = 1 := rfl
      rw [List.length_append, this]
      simp
  by_cases hc : m.jn = true ∧ (m.hk b ms).2 = [] ∧ (m.hk b ms).1.isSome = true
  · rw [if_pos hc, if_pos ⟨hc.1, eL.mpr hc.2⟩]
    have eh : (m.held (b, ms)).headD 0 = (m.hk b ms).1.getD 0 := by
      rw [held_hk]
      cases e : (m.hk b ms).1 with
      | none => rw [e] at hc; exact absurd hc.2.2 (by simp)
      | some x => rfl
    rw [eh]
    cases hp : m.pair0 ((m.hk b ms).1.getD 0) y with
    | none => exact ⟨y, m.held (b, ms), rfl, by rw [held_hk, List.append_assoc]⟩
    | some z => exact ⟨z, [], rfl, by rw [List.append_nil]⟩
  · rw [if_neg hc, if_neg (fun z => hc ⟨z.1, eL.mp z.2⟩)]
    exact ⟨y, m.held (b, ms), rfl, by rw [held_hk, List.append_assoc]⟩
/-! ### all -/
theorem main_ {m : Mo} : ∀ (n : Nat) (l : List Nat) (b : Option Nat) (out : List Nat), l.length < n → m.tameB 0 l = true →
    ∃ st o, m.rdL (b, []) l = some (st, o) ∧ ((m.bb (m.bb l)).foldl m.jStep (jst out b [] m)).1 = out ++ o ++ m.held st
  | 0, _, _, _, h, _ => by omega
  | n + 1, [], b, out, _, _ => by
    refine ⟨(b, []), [], rfl, ?_⟩
    rw [bb_nil, bb_nil]
    cases b <;> simp [jst, Mo.held, Mo.heldB]
  | n + 1, y :: r, b, out, hl, ht => by
    simp only [List.length_cons] at hl
    unfold Mo.tameB at ht
    rw [Bool.and_eq_true] at ht
    by_cases hy : m.c y = 0
    · -- a base
      have er : m.run 0 y = 0 := by unfold Mo.run; rw [if_neg (by omega)]
      rw [er] at ht
      obtain ⟨z, o, h1, h2⟩ := base_both (m := m) (out := out) (b := b) (ms := []) hy
      obtain ⟨st, o2, h3, h4⟩ := main_ n r (some z) (out ++ o) (by omega) ht.2
      refine ⟨st, o ++ o2, by unfold Mo.rdL; rw [h1]; dsimp only; rw [h3], ?_⟩
      rw [bb_base hy, bb_base hy, List.foldl_cons, join0, h2, h4]
      simp
    · have ha : 0 < m.c y := by omega
      have er : m.run 0 y = 1 := by unfold Mo.run; rw [if_pos ha]
      rw [er] at ht
      have s1 : m.rdB (b, []) y = some ((b, [y]), []) := by
        unfold Mo.rdB
        rw [if_pos ha, if_neg (by simp), ins_nil]
      cases r with
      | nil =>
        refine ⟨(b, [y]), [], by unfold Mo.rdL; rw [s1]; rfl, ?_⟩
        rw [bb_one, bb_one, List.foldl_cons, List.foldl_nil, join1 ha, held_hk]
        cases e : (m.hk b [y]).1 <;> simp [jst]
      | cons y2 r =>
        have ht2 := ht.2
        unfold Mo.tameB at ht2
        rw [Bool.and_eq_true] at ht2
        simp only [List.length_cons] at hl
        by_cases hy2 : m.c y2 = 0
        · have er2 : m.run 1 y2 = 0 := by unfold Mo.run; rw [if_neg (by omega)]
          rw [er2] at ht2
          obtain ⟨z, o, h1, h2⟩ := base_both (m := m) (out := out) (b := b) (ms := [y]) hy2
          obtain ⟨st, o2, h3, h4⟩ := main_ n r (some z) (out ++ o) (by omega) ht2.2
          refine ⟨st, o ++ o2, by unfold Mo.rdL; rw [s1]; dsimp only; unfold Mo.rdL; rw [h1]; dsimp only; rw [h3]; rfl, ?_⟩
          rw [bb_m1 hy2, bb_m1 hy2, List.foldl_cons, List.foldl_cons, join1 ha, h2, h4]
          simp
        · have ha2 : 0 < m.c y2 := by omega
          have er2 : m.run 1 y2 = 2 := by unfold Mo.run; rw [if_pos ha2]
          rw [er2] at ht2
          have s2 : m.rdB (b, [y]) y2 = some ((b, m.s2 y y2), []) := by
            unfold Mo.rdB
            rw [if_pos ha2, if_neg (by simp), ins_one]
          obtain ⟨c, d, ec, hc, hd, ei, _⟩ := s2_idem ha ha2
          cases r with
          | nil =>
            refine ⟨(b, m.s2 y y2), [], by unfold Mo.rdL; rw [s1]; dsimp only; unfold Mo.rdL; rw [s2]; rfl, ?_⟩
            rw [bb_e2 ha2, ec, bb_e2 hd, ei, List.foldl_cons, List.foldl_cons, List.foldl_nil, join2 hc hd, held_hk]
            cases e : (m.hk b [c, d]).1 <;> simp [jst]
          | cons y3 r =>
            have ht3 := ht2.2
            unfold Mo.tameB at ht3
            rw [Bool.and_eq_true] at ht3
            simp only [List.length_cons] at hl
            by_cases hy3 : m.c y3 = 0
            · have er3 : m.run 2 y3 = 0 := by unfold Mo.run; rw [if_neg (by omega)]
              rw [er3] at ht3
              obtain ⟨z, o, h1, h2⟩ := base_both (m := m) (out := out) (b := b) (ms := [c, d]) hy3
              obtain ⟨st, o2, h3, h4⟩ := main_ n r (some z) (out ++ o) (by omega) ht3.2
              refine ⟨st, o ++ o2, by unfold Mo.rdL; rw [s1]; dsimp only; unfold Mo.rdL; rw [s2]; dsimp only; rw [ec]; unfold Mo.rdL; rw [h1]; dsimp only; rw [h3]; rfl, ?_⟩
              rw [bb_m2 ha2 hy3, ec]
              show ((m.bb (c :: d :: y3 :: m.bb r)).foldl m.jStep (jst out b [] m)).1 = _
              rw [bb_m2 hd hy3, ei]
              show ((c :: d :: y3 :: m.bb (m.bb r)).foldl m.jStep (jst out b [] m)).1 = _
              rw [List.foldl_cons, List.foldl_cons, List.foldl_cons, join2 hc hd, h2, h4]
              simp
            · have er3 : m.run 2 y3 = 3 := by unfold Mo.run; rw [if_pos (by omega)]
              rw [er3] at ht3
              exact absurd ht3.1 (by decide)
/-- the program's maker is the law's -/
theorem made_plain {m : Mo} {t : List Nat} (h : m.tame t = true) : m.made t = m.plain t := by
  obtain ⟨st, o, h1, h2⟩ := main_ (m := m) ((m.flat t).length + 1) (m.flat t) none [] (by omega) h
  unfold Mo.made Mo.plain Mo.joinL
  rw [h1, pass_bb, pass_bb]
  rw [show (([], none, []) : Jst) = jst [] none [] m from rfl, h2]
  simp
/-- a tame text can be read -/
theorem tame_reads {m : Mo} {t : List Nat} (h : m.tame t = true) : ∃ st o, m.rdL (none, []) (m.flat t) = some (st, o) := by
  obtain ⟨st, o, h1, _⟩ := main_ (m := m) ((m.flat t).length + 1) (m.flat t) none [] (by omega) h
  exact ⟨st, o, h1⟩
end Des
end T_DMath
section T_DRuleA
set_option linter.all false
set_option maxRecDepth 100000
set_option maxHeartbeats 2000000
/-! Own rules: a def run while an exception is handled (FnM); a with-block whose body may raise. -/
namespace Des
open PySem PySem.Spec PyProof.Rows L2
/-! ### a def called from the exit of a with-block -/
structure FnM (P : Program) (w : World) (K : PySem.W.Frag) (mg : Str → Option Value) (base : Heap) (CX : CXT) (k : Nat) (f : Addr) (fd : FuncData) (ps : List Str) (sp : Sp) : Prop where
  len : ∀ vs H Q E, sp vs H Q E → vs.length = ps.length
  run : ∀ (A : Around) (outer : List Env) (s : Shared) (H : Hp) (args : Args) (us : List Value) (vs : List V) (Q : VK) (E : XK),
    L2H.RoomH k A → Env0 P w K mg base A outer s H → BindsTo s fd args (ps.zip us) → Vals vs us → sp vs H Q E →
      codeAny (model P w) A (.call (.ref f) args) (CR CX outer P w H s Q E) s
abbrev cxM (CX : CXT) (P : Program) (w : World) (K : PySem.W.Frag) (mg : Str → Option Value) (base : Heap) (N : List Str) (qual : Str) (scope : Scope) (f : Addr) (cd : Value) (A : Around) (outer : List Env) (s : Shared) (H : Hp) (E : XK) : Cx :=
  { cxOf CX P w K mg base N qual scope f cd A outer s H E with calm := false }
/-- the same def, whatever is handled -/
theorem fnM_of {CX : CXT} {P : Program} {w : World} {K : PySem.W.Frag} {mg : Str → Option Value} {base : Heap} {k : Nat} {f : Addr} {fd : FuncData} {x qual : Str} {pa : Arguments} {bd : List Stmt} {sc : Scope} {dvs : List V} {kws : List (Str × V)} {N ps : List Str} {sp : Sp}
    (F : FunD K x qual pa bd sc dvs kws f fd) (S : FnScope N ps sc) (len : ∀ vs H Q E, sp vs H Q E → vs.length = ps.length)
    (hbody : ∀ (cdv : Value) (A : Around) (outer : List Env) (s : Shared) (H : Hp) (vs : List V) (Q : VK) (E : XK), sp vs H Q E →
      ∃ t, PSs (cxM CX P w K mg base N qual sc f cdv A outer s H E) bd t ∧ t { nx := fun _ H' => Q .non H', rt := Q } (start N vs) H) :
    FnM P w K mg base CX (k + 1) f fd ps sp := by
  obtain ⟨oc, od, dV, kV, doc, pm, an, cdv, ct, osl, rfl, lk, hcd, _, _⟩ := F.ex
  refine ⟨len, fun A outer s H args us vs Q E hr e0 hb r hsp => ?_⟩
  have hl := len _ _ _ _ hsp
  have kbs : ∀ b o, base.get? b = some o → s.heap.get? b = some o := fun b o e => (e0.bs b o e).1
  have KX : K.In s.heap := e0.mod.kin.keeps kbs
  have lim : s.heap.NoLimit := e0.mod.nolimit.keeps kbs
  refine codeAny_call_function hr.depth (KX _ _ lk) rfl S.co S.gen rfl (PySem.W.codeRec_of KX hcd) (hb _ _ _ _ ?_)
  refine wpAny_newFunctionEnv_cells S.kind (fun ⟨n, v⟩ hy => ?_) fun env he s1 xx => ?_
  · rcases S.par n (List.of_mem_zip hy).1 with q | q
    · exact .inl q
    · exact .inr ⟨q, PySem.W.cellsFrom_some _ _ _ (.inl q)⟩
  subst he
  refine ⟨lim.keeps xx.toInCall.keep, codeAny_func ?_⟩
  obtain ⟨t, ht, hq⟩ := hbody cdv A outer s H vs Q E hsp
  have e1 : Env0 P w K mg base { A with handled := none } outer s H := ⟨e0.frames, e0.mod, e0.bs, e0.bsz, e0.funs, e0.frf, e0.hok, e0.bare⟩
  have I0 : Inv (cxOf CX P w K mg base N qual sc f cdv { A with handled := none } outer s H E) [] (start N vs) H s1 := inv_start S rfl e1 hl r xx
  have ok0 := I0.ok
  have I : Inv (cxM CX P w K mg base N qual sc f cdv A outer s H E) [] (start N vs) H s1 :=
    ⟨⟨ok0.mod, ok0.kind, ok0.glob, ok0.blt, ok0.above, ok0.inj, ok0.has, ok0.cab, fun z => absurd (show false = true from z) Bool.false_ne_true, Around.frames_deeper e0.frames, ok0.stk, ok0.exf, ok0.bs, ok0.bsz, ok0.noex, ok0.exfs, ok0.funs, ok0.frf⟩,
      I0.os, I0.bare, I0.base, I0.loc, I0.cell, I0.free, I0.freeC, I0.pin, I0.hok, I0.len⟩
  refine wpAny_mono (ht.run [] s1 _ H _ I hq) (fun fl s' hs => ?_) fun e s' hs => hs
  cases fl with
  | ret u =>
    obtain ⟨v, σ', H', J, rv, q⟩ := hs
    exact ⟨v, H', J.os, J.bare, J.base, J.hok, rv, q⟩
  | next =>
    obtain ⟨σ', H', J, q⟩ := hs
    exact ⟨.non, H', J.os, J.bare, J.base, J.hok, rfl, q⟩
  | brk =>
    obtain ⟨_, _, _, q⟩ := hs
    exact False.elim q
  | cont =>
    obtain ⟨_, _, _, q⟩ := hs
    exact False.elim q
/-! ### the with statement of the model -/
section
variable {prog : Program} {w : World} {M : Model} {A : Around} {E : Value → Shared → Prop} {s : Shared} {env : Env} {K : PySem.W.Frag} {x C fe fx : Addr} {ox : Obj} {od : Option Obj} {pos : Pos}
/-- what happens to an error of the body -/
def ExitX (prog : Program) (w : World) (A : Around) (E : Value → Shared → Prop) (env : Env) (fx x : Addr) (Q : Flow → Shared → Prop) (e : Value) (s : Shared) : Prop :=
  wpAny (model prog w) A (noteFrame e env) (fun _ s1 => wpAny (model prog w) A (setFlight e none) (fun _ s2 =>
    wpAny (model prog w) A (typeOf e) (fun c s3 => wpAny (model prog w) A (tracebackOf e) (fun t s4 =>
      wpAny (model prog w) A (run (.call (.ref fx) ⟨[.ref x, c, e, t], []⟩) (some e)) (fun f s5 => f = .ret (.bool false) ∧ wpAny (model prog w) A (passOn "with" e env) Q E s5) E s4) E s3) E s2) E s1) E s
theorem exit_go {Q : Flow → Shared → Prop} {e : Value} (z : ExitX prog w A E env fx x Q e s) :
    wpAny (model prog w) A (do
      noteFrame e env
      setFlight e none
      standAt pos
      holding [e] do
        let c ← typeOf e
        let t ← tracebackOf e
        let r ← withItem.marked e (Code.call (.ref fx) { pos := [.ref x] ++ [c, e, t] })
        let r ← pure r
        match r with
          | .none => do
            let b ← pure false
            if b = true then do
              rule "with.exit-swallows"
              setFlight e none
              pure Flow.next
            else passOn "with" e env
          | .bool b => do
            let b ← pure b
            if b = true then do
              rule "with.exit-swallows"
              setFlight e none
              pure Flow.next
            else passOn "with" e env
          | _ => do
            let y ← withItem.marked e (Code.call (.type "bool") { pos := [r] })
            let b ← pure (y == Value.bool true)
            if b = true then do
              rule "with.exit-swallows"
              setFlight e none
              pure Flow.next
            else passOn "with" e env) Q E s := by
  unfold ExitX at z
  refine wpAny_bind (wpAny_mono z (fun _ s1 z1 => wpAny_bind (wpAny_mono z1 (fun _ s2 z2 => ?_) fun _ _ q => q)) fun _ _ q => q)
  refine wpAny_bind (wpAny_standAt (wpAny_holding ?_))
  refine wpAny_bind (wpAny_mono z2 (fun c s3 z3 => wpAny_bind (wpAny_mono z3 (fun t s4 z4 => ?_) fun _ _ q => q)) fun _ _ q => q)
  unfold withItem.marked
  refine wpAny_bind (wpAny_bind (wpAny_mono z4 (fun f s5 z5 => ?_) fun _ _ q => q))
  obtain ⟨ef, z5⟩ := z5
  subst ef
  refine wpAny_pure (wpAny_bind (wpAny_pure ?_))
  refine wpAny_bind (wpAny_pure ?_)
  rw [if_neg Bool.false_ne_true]
  exact z5
theorem with_core {b : Value → Sem Unit} {bdy : Sem Flow} {Q : Flow → Shared → Prop} (X : K.In s.heap) (I : PySem.W.InstAt s.heap x ox C od) (mE : Meth K C "__enter__" fe) (mX : Meth K C "__exit__" fx)
    (h : wpAny (model prog w) A (call (.ref fe) [.ref x]) (fun v s₂ => wpAny (model prog w) A (b v) (fun _ s₃ => wpAny (model prog w) A bdy (fun f s₄ => wpAny (model prog w) A (call (.ref fx) [.ref x, .none, .none, .none]) (fun _ s₅ => Q f s₅) E s₄)
      (ExitX prog w A E env fx x Q) s₃) (ExitX prog w A E env fx x Q) s₂) E s) :
    wpAny (model prog w) A (withItem false pos env (pure (.ref x)) (some b) bdy) Q E s := by
  obtain ⟨cd, hcd, ae⟩ := PySem.W.kw_along mE.at_
  obtain ⟨cd', hcd', ax⟩ := PySem.W.kw_along mX.at_
  cases hcd.symm.trans hcd'
  obtain ⟨hh, g, d, tt, os⟩ := s
  have L1 : PySem.W.Looks (model prog w) hh (specialOnItsLine (.ref x) "__enter__") (some (.ref fe), cd.mro) := PySem.W.kw_special X I hcd ae
  have L2 : PySem.W.Looks (model prog w) hh (specialOnItsLine (.ref x) "__exit__") (some (.ref fx), cd.mro) := PySem.W.kw_special X I hcd ax
  have L3 : PySem.W.Looks (model prog w) hh (bindSpecial (.ref fe) (.ref x)) (.ref fe, [.ref x]) := PySem.W.bind_fn X _ (beq_iff_eq.mp mE.fn)
  have L4 : PySem.W.Looks (model prog w) hh (bindSpecial (.ref fx) (.ref x)) (.ref fx, [.ref x]) := PySem.W.bind_fn X _ (beq_iff_eq.mp mX.fn)
  have L5 : PySem.W.Looks (model prog w) hh (aMethodOfAnotherBuiltinTypeStops (.ref fe) cd.mro) () := PySem.W.Looks.of_pure rfl
  have L6 : PySem.W.Looks (model prog w) hh (aMethodOfAnotherBuiltinTypeStops (.ref fx) cd.mro) () := PySem.W.Looks.of_pure rfl
  unfold withItem
  refine wpAny_bind (wpAny_pure ?_)
  refine wpAny_bind (wpAny_standAt ?_)
  simp only [Bool.false_eq_true, if_false]
  kw_lk
  refine wpAny_mono h (fun v s₂ h₂ => ?_) fun _ _ z => z
  kw_lk
  refine wpAny_attempt (PySem.W.kw_held ?_)
  show wpAny _ _ (b v >>= fun _ => bdy) _ _ _
  refine wpAny_bind (wpAny_mono h₂ (fun _ s₃ h₃ => wpAny_mono h₃ (fun f s₄ h₄ => ?_) fun e s₄ z => ?_) fun e s₃ z => ?_)
  · kw_lk
    refine wpAny_mono h₄ (fun _ s₅ h₅ => ?_) fun _ _ z => z
    kw_lk
    exact h₅
  · exact exit_go z
  · exact exit_go z
end
/-! ### the rule -/
/-- what is wished of an error of the body: the exit runs, hands back False, on it goes -/
def wWithX (spX : Sp) (x : Addr) (Wout : WX) : WX := fun cls d σ H => ∃ c : V, RelV c cls ∧ ∀ (a : Addr) (t : V), H a = none → spX [.ref x, c, .ref a, t] H (fun v H' => v = .bl false ∧ Wout cls d σ H') E0
def tWithX (C : Addr) (spE spX : Sp) (i : Nat) (tm : TE) (tb : WX → TS) (Wout : WX) : TS := fun D σ H => tm σ H fun v H1 => ∃ x dx fs, v = .ref x ∧ H1 x = some (.ins C dx fs) ∧
  spE [.ref x] H1 (fun u H2 => tb (wWithX spX x Wout) { nx := fun σ' H' => spX [.ref x, .non, .non, .non] H' (fun _ H'' => D.nx σ' H'') E0, rt := fun _ _ => False } (σ.set i (some u)) H2) E0
section
variable {X : Cx} {body : List Stmt} {pos py : Pos} {tm : TE} {tb : WX → TS} {Wout : WX} {C fe fx : Addr} {fdE fdX : FuncData} {psX : List Str} {spE spX : Sp} {kE kX i : Nat} {ctx : Expr} {y : Str}
/-- the error of the body meets the exit -/
theorem with_exc {pins : List (Addr × Obj)} {D : Ends} {u : Value} {s' : Shared} {x : Addr} (hs : X.stack = X.env :: X.outer) (hf : X.env.frame = some X.env.locals) (hex : X.ex = []) (ok : X.Ok) (tk : Takes X Wout)
    (FM : FnM X.prog X.w X.K X.mg X.base CX0 kX fx fdX psX spX) (hr : L2H.RoomH kX X.A) (bX : Binds X.K fdX psX [])
    (xx : XE (X.tr (X.pn ++ pins) (ExitX X.prog X.w X.A X.xe X.env fx x (SP X pins D))) (wWithX spX x Wout) u s') : ExitX X.prog X.w X.A X.xe X.env fx x (SP X pins D) u s' := by
  have hfr : X.A.frames = some (X.env :: X.outer) := by rw [ok.frames, hs]
  obtain ⟨a, B, sI, pins', σ', H', cls, d, rfl, J', nb, up, sky, na, os, ag, c, rc, hw⟩ := xx
  have J : Inv X pins σ' H' sI := J'.ofTry ok
  have sky' : Sky B (X.env :: X.outer) a (Zc cls d) X.env.locals s'.heap := by rw [← hs]; exact sky
  unfold ExitX
  refine Sky.land Zc.steady hfr hf sky' fun h3 fl3 up3 => ?_
  have J3 : Inv X pins σ' H' { s' with heap := h3 } := J.landed nb fl3.1 (up.trans up3) os ag
  obtain ⟨k1, k2, k3, oe, vs, T, oT, ts, he3, hz, hd, hv1, hnT, hTe, hT, hdT, ht3⟩ := id fl3
  have nT : H' T = none := (J.inGround nb).gone hnT
  have notFr : ∀ (b : Addr) (o : Obj) (fv : Array Value), h3.get? b = some o → o.data = .fields fv → b ∉ frs X.stack := fun b o fv e dd hm => by
    rw [hs] at hm
    obtain ⟨_, o', e', hnf⟩ := k3.mem hm
    have eo : o = o' := Option.some.inj (e.symm.trans e')
    exact hnf _ (by rw [← eo]; exact dd)
  have fa := notFr a oe vs he3 hd
  have fT := notFr T oT ts hT hdT
  refine wpAny_typeOf_ref he3 ?_
  rw [hz.1]
  -- the traceback
  have tbk : ∀ (R : Value → Shared → Prop) (E' : Value → Shared → Prop), (∀ (t : Value), (t = .none ∨ t = .ref T) → R t { s' with heap := h3 }) → wpAny (model X.prog X.w) X.A (tracebackOf (.ref a)) R E' { s' with heap := h3 } := fun R E' hR => by
    unfold tracebackOf
    refine wpAny_bind (wpAny_field he3 hd hv1 ?_)
    have h3' : 1 < ts.size := Nat.lt_trans (by decide : 1 < 3) (Array.getElem?_eq_some_iff.mp ht3).1
    obtain ⟨v1, hv⟩ : ∃ v1, ts[1]? = some v1 := ⟨ts[1], Array.getElem?_eq_getElem h3'⟩
    dsimp only
    refine wpAny_bind (wpAny_field hT hdT hv ?_)
    by_cases q : (v1 == Value.none) = true
    · rw [if_pos q]
      exact wpAny_pure (hR _ (.inl rfl))
    · rw [if_neg q]
      exact wpAny_pure (hR _ (.inr rfl))
  refine tbk _ _ fun t ht => ?_
  obtain ⟨tv, rt⟩ : ∃ tv : V, RelV tv t := by
    rcases ht with e | e
    · exact ⟨.non, e⟩
    · exact ⟨.ref T, e⟩
  -- the exit runs
  have e0 := J3.env0
  have e1 : Env0 X.prog X.w X.K X.mg X.base (X.A.mark (some (.ref a))) X.stack { s' with heap := h3 } H' := ⟨e0.frames, e0.mod, e0.bs, e0.bsz, e0.funs, e0.frf, e0.hok, e0.bare⟩
  have hsp := hw a tv na
  have hl : ([.ref x, cls, .ref a, t] : List Value).length = psX.length := (FM.len _ _ _ _ hsp)
  have hb := bX { s' with heap := h3 } [.ref x, cls, .ref a, t] J3.kIn (by rw [List.append_nil]; exact hl)
  rw [List.append_nil] at hb
  have rv : Vals [.ref x, c, .ref a, tv] [.ref x, cls, .ref a, t] := .cons rfl (.cons rc (.cons rfl (.cons rt .nil)))
  refine wpAny_run (codeAny_mono (FM.run (X.A.mark (some (.ref a))) X.stack _ H' _ _ _ _ _ ⟨hr.dp, hr.un⟩ e1 hb rv hsp) fun r s5 hq => ?_) (by intro z; cases z)
  cases r with
  | error e => exact False.elim hq
  | ok fl =>
    cases fl with
    | next => exact False.elim hq
    | brk => exact False.elim hq
    | cont => exact False.elim hq
    | ret u5 =>
      obtain ⟨v5, H6, os5, bare5, un5, hok5, r5, ev5, q6⟩ := hq
      subst ev5
      obtain rfl : u5 = Value.bool false := r5
      refine ⟨rfl, ?_⟩
      have J6 : Inv X pins σ' H6 s5 := J3.call' os5 un5 hok5 bare5 (fun _ z => nomatch z)
      have ga : s5.heap.get? a = some oe := un5.keep a oe he3 na fa (by simp)
      have gT : s5.heap.get? T = some oT := un5.keep T oT hT nT fT (by simp)
      have na6 : H6 a = none := un5.free a oe he3 na (by simp)
      have nT6 : H6 T = none := un5.free T oT hT nT (by simp)
      -- what is not the error's
      have far : ∀ b o, sI.heap.get? b = some o → b ≠ a ∧ b ≠ T := fun b o e => by
        by_cases hb : b ∈ frs X.stack
        · exact ⟨fun z => fa (z ▸ hb), fun z => fT (z ▸ hb)⟩
        · have q := nb b o e hb
          exact ⟨fun z => (by rw [z, k2] at q; cases q), fun z => (by rw [z, hnT] at q; cases q)⟩
      have far0 : ∀ b o, X.s_0.heap.get? b = some o → b ≠ a ∧ b ≠ T := fun b o e => by
        obtain ⟨o', q⟩ := J.base.there b o e (by rw [hex]; simp)
        exact far b o' q
      obtain ⟨G, g1, g2⟩ := restrict s5.heap fun b => !(decide (b = a) || decide (b = T))
      have gIn : ∀ b o, G.get? b = some o → s5.heap.get? b = some o ∧ b ≠ a ∧ b ≠ T := fun b o e => by
        cases q : (!(decide (b = a) || decide (b = T))) with
        | false => rw [g2 b q] at e; cases e
        | true =>
          rw [g1 b q] at e
          simp only [Bool.not_eq_true', Bool.or_eq_false_iff, decide_eq_false_iff_not] at q
          exact ⟨e, q.1, q.2⟩
      have gOf : ∀ b o, b ≠ a → b ≠ T → s5.heap.get? b = some o → G.get? b = some o := fun b o h1 h2 e => by
        rw [g1 b (by simp [h1, h2])]
        exact e
      have I6 : Inv X pins σ' H6 { s5 with heap := G } := J6.less (fun b o e => (gIn b o e).1) gOf ⟨oe, vs, ga, hd⟩ ⟨oT, ts, gT, hdT⟩ na6 nT6 far0 fun p hp => far p.1 p.2 (J.pin p hp).1
      have B6in : ∀ b o, (PySem.W.hideAll G (frs X.stack)).get? b = some o → s5.heap.get? b = some o := fun b o e => (gIn b o (PySem.W.of_hideAll _ e)).1
      have Bno : ∀ b, (b = a ∨ b = T) → (PySem.W.hideAll G (frs X.stack)).get? b = none := fun b hb => by
        cases q : (PySem.W.hideAll G (frs X.stack)).get? b with
        | none => rfl
        | some o =>
          obtain ⟨_, n1, n2⟩ := gIn b o (PySem.W.of_hideAll _ q)
          exact hb.elim (fun z => absurd z n1) fun z => absurd z n2
      have fl6 : HandSPX.FlyingZ (PySem.W.hideAll G (frs X.stack)) (X.env :: X.outer) a (Zc cls d) s5.heap := by
        refine ⟨B6in, Bno a (.inl rfl), ?_, oe, vs, T, oT, ts, ga, hz, hd, hv1, Bno T (.inr rfl), hTe, gT, hdT, ht3⟩
        rw [← hs]
        exact funFrames_none J6.stack fun b hb => PySem.W.hideAll_none _ hb
      unfold PySem.passOn
      refine wpAny_bind (wpAny_field ga hd hv1 ?_)
      rw [if_neg (show ¬ ((Value.ref T == Value.none) = true) from by simp)]
      have goOn : wpAny (model X.prog X.w) X.A (setFlight (.ref a) X.env.frame) (fun _ s7 => wpAny (model X.prog X.w) X.A (throw (.ref a) : Sem Flow) (SP X pins D) X.xe s7) X.xe s5 := by
        rw [hf]
        refine HandSPX.setFlight_upZ fl6 fun h7 hh7 up7 => wpAny_throw (tk _ _ ?_)
        exact ⟨a, PySem.W.hideAll G (frs X.stack), { s5 with heap := G }, pins, σ', H6, cls, d, rfl, I6, fun b o e hb => PySem.W.hideAll_get _ e hb,
          Heap.UpToSlots.trans (Heap.UpToSlots.of_keeps fun b o e => (gIn b o e).1) up7, .inr (.inr (by rw [← hs] at hh7; exact hh7)), na6, rfl, J6.bare, q6⟩
      first
        | exact wpAny_bind (wpAny_pure (wpAny_bind goOn))
        | exact wpAny_bind goOn
theorem ps_withX (hs : X.stack = X.env :: X.outer) (hf : X.env.frame = some X.env.locals) (hex : X.ex = []) (hN : X.N.Nodup) (hi : X.N[i]? = some y) (hx : Loc X.env.scope y) (tk : Takes X Wout) (he : PE X ctx tm)
    (mE : Meth X.K C "__enter__" fe) (mX : Meth X.K C "__exit__" fx) (FE : FnOk X.prog X.w X.K X.mg X.base CX0 kE fe fdE ["self"] spE) (FX : FnOk X.prog X.w X.K X.mg X.base CX0 kX fx fdX psX spX)
    (FM : FnM X.prog X.w X.K X.mg X.base CX0 kX fx fdX psX spX) (hrE : Room kE X.A) (hrX : Room kX X.A) (bE : Binds X.K fdE ["self"] []) (bX : Binds X.K fdX psX [])
    (hb : ∀ (W : WX) (pn : List (Addr × Obj)) (xe : Value → Shared → Prop), Takes (X.tr pn xe) W → PSs (X.tr pn xe) body (tb W))
    (hfn : X.fn y = true ∨ X.env.scope.names.lookup y = some .local := by first | exact .inl rfl | exact .inr rfl) :
    PS X (.With [⟨ctx, some (.Name y py)⟩] body pos) (tWithX C spE spX i tm tb Wout) := by
  refine ⟨fun pins s σ H D I h => ?_⟩
  have ok := I.ok
  refine PySem.W.kw_execN (thn (he.run pins s σ H _ I h) fun u s1 hu => ?_)
  obtain ⟨v, H1, I1, rv, x, dx, fs, rfl, ex, hE⟩ := hu
  obtain rfl : u = Value.ref x := rv
  obtain ⟨mA, O, _, _, _, _⟩ := ins_get I1.hok ex
  obtain ⟨od, J, _⟩ := O.look
  unfold PySem.W.KwIn
  refine with_core (b := assign (.Name y py) X.env) I1.kIn J mE mX ?_
  refine thn (wpAny_mono (run_fn (E := E0) (dvs := []) (ds := []) FE hrE bE .nil pass0 I1 (us := [.ref x]) (vs := [.ref x]) (.cons rfl .nil) hE) (fun _ _ z => z) fun _ _ z => z) fun u2 s2 h2 => ?_
  obtain ⟨v2, H2, I2, r2, q2⟩ := h2
  refine wpAny_assign_Name (store_ok I2 hN hi hx r2 (fun s3 I3 => ?_) hfn)
  refine wpAny_mono ((hb (wWithX spX x Wout) (X.pn ++ pins) (ExitX X.prog X.w X.A X.xe X.env fx x (SP X pins D)) (fun u s' xx => with_exc hs hf hex ok tk FM (L2H.roomH_of hrX) bX xx)).run [] s3 _ H2 _ (I3.toTry _) q2) (fun f s4 hsp => ?_) fun _ _ z => z
  cases f with
  | ret u => obtain ⟨_, _, _, _, _, z⟩ := hsp; exact z.elim
  | brk => obtain ⟨_, _, _, z⟩ := hsp; exact z.elim
  | cont => obtain ⟨_, _, _, z⟩ := hsp; exact z.elim
  | next =>
    obtain ⟨σ4, H4, J4, q4⟩ := hsp
    have I4 : Inv X pins σ4 H4 s4 := J4.ofTry ok
    refine thn (run_fn (E := E0) (dvs := []) (ds := []) FX hrX bX .nil pass0 I4 (us := [.ref x, .none, .none, .none]) (vs := [.ref x, .non, .non, .non]) (.cons rfl (.cons rfl (.cons rfl (.cons rfl .nil)))) q4) fun u5 s5 h5 => ?_
    obtain ⟨v5, H5, I5, r5, q5⟩ := h5
    exact ⟨_, _, I5, q5⟩
end
end Des
end T_DRuleA
section T_DRuleB
set_option linter.all false
set_option maxRecDepth 100000
set_option maxHeartbeats 2000000
/-! Own rules: a closure handed to a method, and called there: its cells are tracked while it is away from its frame. -/
namespace Des
open PySem PySem.Spec PyProof.Rows L2 NdefX
/-! ### cells, tracked or not -/
abbrev Cs := List (Addr × Obj)
def addC (cs : Cs) (H : Hp) : Hp := fun b => match cs.lookup b with
  | some o => some (.frz o (.own 0))
  | none => H b
def delC (cs : Cs) (H : Hp) : Hp := fun b => match cs.lookup b with
  | some _ => none
  | none => H b
/-- H tracks the cells, G does not; else they are the same -/
structure View (cs : Cs) (H G : Hp) : Prop where
  out : ∀ b, cs.lookup b = none → H b = G b
  on : ∀ b o, cs.lookup b = some o → H b = some (.frz o (.own 0)) ∧ G b = none
def Trk (cs : Cs) (H : Hp) : Prop := ∀ b o, cs.lookup b = some o → H b = some (.frz o (.own 0))
def Unt (cs : Cs) (H : Hp) : Prop := ∀ b o, cs.lookup b = some o → H b = none
theorem addC_out {cs : Cs} {H : Hp} {b : Addr} (e : cs.lookup b = none) : addC cs H b = H b := by unfold addC; rw [e]
theorem addC_on {cs : Cs} {H : Hp} {b : Addr} {o : Obj} (e : cs.lookup b = some o) : addC cs H b = some (.frz o (.own 0)) := by unfold addC; rw [e]
theorem delC_out {cs : Cs} {H : Hp} {b : Addr} (e : cs.lookup b = none) : delC cs H b = H b := by unfold delC; rw [e]
theorem delC_on {cs : Cs} {H : Hp} {b : Addr} {o : Obj} (e : cs.lookup b = some o) : delC cs H b = none := by unfold delC; rw [e]
theorem view_add {cs : Cs} {G : Hp} (u : Unt cs G) : View cs (addC cs G) G := ⟨fun b e => addC_out e, fun b o e => ⟨addC_on e, u b o e⟩⟩
theorem view_del {cs : Cs} {H : Hp} (t : Trk cs H) : View cs H (delC cs H) := ⟨fun b e => (delC_out e).symm, fun b o e => ⟨t b o e, delC_on e⟩⟩
theorem trk_add {cs : Cs} {G : Hp} : Trk cs (addC cs G) := fun b o e => addC_on e
theorem unt_del {cs : Cs} {H : Hp} : Unt cs (delC cs H) := fun b o e => delC_on e
theorem add_del {cs : Cs} {H : Hp} (t : Trk cs H) : addC cs (delC cs H) = H := funext fun b => by
  cases e : cs.lookup b with
  | none => rw [addC_out e, delC_out e]
  | some o => rw [addC_on e, t b o e]
theorem del_add {cs : Cs} {G : Hp} (u : Unt cs G) : delC cs (addC cs G) = G := funext fun b => by
  cases e : cs.lookup b with
  | none => rw [delC_out e, addC_out e]
  | some o => rw [delC_on e, u b o e]
/-- an object tracked in G is none of the cells -/
theorem View.no {cs : Cs} {H G : Hp} (v : View cs H G) {b : Addr} {u : HO} (e : G b = some u) : cs.lookup b = none := by
  cases q : cs.lookup b with
  | none => rfl
  | some o => rw [(v.on b o q).2] at e; cases e
theorem View.no2 {cs : Cs} {H G : Hp} (v : View cs H G) {b : Addr} {u : HO} (e : H b = some u) (n : ∀ o, u ≠ .frz o (.own 0)) : cs.lookup b = none := by
  cases q : cs.lookup b with
  | none => rfl
  | some o => rw [(v.on b o q).1] at e; exact absurd (Option.some.inj e).symm (n o)
theorem View.up {cs : Cs} {H G : Hp} (v : View cs H G) {b : Addr} {u : HO} (e : G b = some u) : H b = some u := (v.out b (v.no e)).trans e
theorem View.dn {cs : Cs} {H G : Hp} (v : View cs H G) {b : Addr} {u : HO} (e : H b = some u) (n : ∀ o, u ≠ .frz o (.own 0)) : G b = some u := (v.out b (v.no2 e n)).symm.trans e
section
variable {P : Program} {w : World} {cs : Cs} {H G H' G' : Hp} {h h' B : Heap} {fs ex : List Addr}
theorem hok_dn (v : View cs H G) (x : HOk P w H h) : HOk P w G h := fun a u e =>
  (x a u (v.up e)).stay (fun _ _ _ q => q) (fun b q => v.dn q fun o z => nomatch z) fun b xs q => v.dn q fun o z => nomatch z
theorem hok_up (v : View cs H G) (x : HOk P w G h) (c : ∀ b o, cs.lookup b = some o → h.get? b = some o) : HOk P w H h := fun a u e => by
  cases q : cs.lookup a with
  | none =>
    rw [v.out a q] at e
    exact (x a u e).stay (fun _ _ _ q => q) (fun b q => v.up q) fun b xs q => v.up q
  | some o =>
    have e1 := (v.on a o q).1
    rw [e1] at e
    obtain rfl : HO.frz o (.own 0) = u := Option.some.inj e
    exact ⟨c a o q, o, c a o q⟩
theorem hok_cell (t : Trk cs H) (x : HOk P w H h) : ∀ b o, cs.lookup b = some o → h.get? b = some o := fun b o e => by
  obtain ⟨z, _⟩ := (show ObjOk P w H h b (.frz o (.own 0)) from x b _ (t b o e))
  exact z
theorem un_dn (v : View cs H G) (v' : View cs H' G') (u : Un fs ex H H' h h') (c : ∀ b o, cs.lookup b = some o → h.get? b = some o) (c' : ∀ b o, cs.lookup b = some o → h'.get? b = some o) (nf : ∀ b o, cs.lookup b = some o → b ∉ fs) : Un fs ex G G' h h' where
  keep := fun b o e n hb hx => by
    cases q : cs.lookup b with
    | none => exact u.keep b o e ((v.out b q).trans n) hb hx
    | some ob =>
      have e1 := c b ob q
      rw [e] at e1
      rw [Option.some.inj e1]
      exact c' b ob q
  slot := fun b o e n hb hx => by
    cases q : cs.lookup b with
    | none => exact u.slot b o e ((v.out b q).trans n) hb hx
    | some ob => exact absurd hb (nf b ob q)
  free := fun b o e n hx => by
    cases q : cs.lookup b with
    | none => exact (v'.out b q).symm.trans (u.free b o e ((v.out b q).trans n) hx)
    | some ob => exact (v'.on b ob q).2
  there := u.there
  tups := fun b xs e => v'.dn (u.tups b xs (v.up e)) fun o z => nomatch z
  frzs := fun b o xs e => by
    have q := v.no e
    rw [← v'.out b q]
    exact u.frzs b o xs (v.up e)
  tbls := fun b ps e => by
    obtain ⟨more, z⟩ := u.tbls b ps (v.up e)
    exact ⟨more, v'.dn z fun o y => nomatch y⟩
theorem un_up (v : View cs H G) (v' : View cs H' G') (u : Un fs ex G G' h h') : Un fs ex H H' h h' := by
  have no : ∀ b, H b = none → cs.lookup b = none := fun b n => by
    cases q : cs.lookup b with
    | none => rfl
    | some o => rw [(v.on b o q).1] at n; cases n
  refine ⟨fun b o e n hb hx => ?_, fun b o e n hb hx => ?_, fun b o e n hx => ?_, u.there, fun b xs e => ?_, fun b o xs e => ?_, fun b ps e => ?_⟩
  · exact u.keep b o e ((v.out b (no b n)).symm.trans n) hb hx
  · exact u.slot b o e ((v.out b (no b n)).symm.trans n) hb hx
  · exact (v'.out b (no b n)).trans (u.free b o e ((v.out b (no b n)).symm.trans n) hx)
  · exact v'.up (u.tups b xs (v.dn e fun o z => nomatch z))
  · cases q : cs.lookup b with
    | none =>
      rw [v.out b q] at e
      exact v'.up (u.frzs b o xs e)
    | some ob =>
      rw [(v.on b ob q).1] at e
      rw [(v'.on b ob q).1]
      exact e
  · obtain ⟨more, z⟩ := u.tbls b ps (v.dn e fun o z => nomatch z)
    exact ⟨more, v'.up z⟩
theorem ub_dn (v : View cs H G) (v' : View cs H' G') (u : UB fs H H' h B h') (c : ∀ b o, cs.lookup b = some o → h.get? b = some o) (c' : ∀ b o, cs.lookup b = some o → B.get? b = some o) : UB fs G G' h B h' where
  keep := fun b o e n hb => by
    cases q : cs.lookup b with
    | none => exact u.keep b o e ((v.out b q).trans n) hb
    | some ob =>
      have e1 := c b ob q
      rw [e] at e1
      rw [Option.some.inj e1]
      exact c' b ob q
  slot := u.slot
  free := fun b o e n => by
    cases q : cs.lookup b with
    | none => exact (v'.out b q).symm.trans (u.free b o e ((v.out b q).trans n))
    | some ob => exact (v'.on b ob q).2
  there := u.there
  tups := fun b xs e => v'.dn (u.tups b xs (v.up e)) fun o z => nomatch z
  frzs := fun b o xs e => by
    have q := v.no e
    rw [← v'.out b q]
    exact u.frzs b o xs (v.up e)
  tbls := fun b ps e => by
    obtain ⟨more, z⟩ := u.tbls b ps (v.up e)
    exact ⟨more, v'.dn z fun o y => nomatch y⟩
theorem ub_up (v : View cs H G) (v' : View cs H' G') (u : UB fs G G' h B h') : UB fs H H' h B h' := by
  have no : ∀ b, H b = none → cs.lookup b = none := fun b n => by
    cases q : cs.lookup b with
    | none => rfl
    | some o => rw [(v.on b o q).1] at n; cases n
  refine ⟨fun b o e n hb => ?_, u.slot, fun b o e n => ?_, u.there, fun b xs e => ?_, fun b o xs e => ?_, fun b ps e => ?_⟩
  · exact u.keep b o e ((v.out b (no b n)).symm.trans n) hb
  · exact (v'.out b (no b n)).trans (u.free b o e ((v.out b (no b n)).symm.trans n))
  · exact v'.up (u.tups b xs (v.dn e fun o z => nomatch z))
  · cases q : cs.lookup b with
    | none =>
      rw [v.out b q] at e
      exact v'.up (u.frzs b o xs e)
    | some ob =>
      rw [(v.on b ob q).1] at e
      rw [(v'.on b ob q).1]
      exact e
  · obtain ⟨more, z⟩ := u.tbls b ps (v.dn e fun o z => nomatch z)
    exact ⟨more, v'.up z⟩
variable {outer : List Env} {s s' : Shared} {Q : VK} {E : XK} {u : Value}
/-- a call's end and error, seen without the cells -/
theorem ce_dn (v : View cs H G) (c : ∀ b o, cs.lookup b = some o → s.heap.get? b = some o) (nf : ∀ b o, cs.lookup b = some o → b ∉ frs outer) (x : CE outer P w H s (fun y H' => Q y (delC cs H')) u s') : CE outer P w G s Q u s' := by
  obtain ⟨y, H', os, bare, un, hok, r, q⟩ := x
  have t' : Trk cs H' := fun b o e => un.frzs b o _ (v.on b o e).1
  exact ⟨y, delC cs H', os, bare, un_dn v (view_del t') un c (hok_cell t' hok) nf, hok_dn (view_del t') hok, r, q⟩
theorem cx_dn (v : View cs H G) (c : ∀ b o, cs.lookup b = some o → s.heap.get? b = some o) (x : L2.CX P w outer H s (fun k d H' => E k d (delC cs H')) u s') : L2.CX P w outer G s E u s' := by
  obtain ⟨a, B, H', cls, d, e, fl, hok, ub, na, os, ag, q⟩ := x
  have t' : Trk cs H' := fun b o e => ub.frzs b o _ (v.on b o e).1
  refine ⟨a, B, delC cs H', cls, d, e, fl, hok_dn (view_del t') hok, ub_dn v (view_del t') ub c (hok_cell t' hok), ?_, os, ag, q⟩
  cases z : cs.lookup a with
  | none => rw [delC_out z]; exact na
  | some o => exact delC_on z
/-- .. seen with them -/
theorem ce_up (v : View cs H G) (c : ∀ b o, cs.lookup b = some o → s.heap.get? b = some o) (nf : ∀ b o, cs.lookup b = some o → b ∉ frs outer) (x : CE outer P w G s (fun y H' => Unt cs H' → Q y (addC cs H')) u s') : CE outer P w H s Q u s' := by
  obtain ⟨y, G', os, bare, un, hok, r, q⟩ := x
  have u' : Unt cs G' := fun b o e => un.free b o (c b o e) (v.on b o e).2 (by simp)
  refine ⟨y, addC cs G', os, bare, un_up v (view_add u') un, hok_up (view_add u') hok fun b o e => un.keep b o (c b o e) (v.on b o e).2 (nf b o e) (by simp), r, q u'⟩
theorem cx_up (v : View cs H G) (c : ∀ b o, cs.lookup b = some o → s.heap.get? b = some o) (nf : ∀ b o, cs.lookup b = some o → b ∉ frs outer) (x : L2.CX P w outer G s (fun k d H' => Unt cs H' → E k d (addC cs H')) u s') : L2.CX P w outer H s E u s' := by
  obtain ⟨a, B, G', cls, d, e, fl, hok, ub, na, os, ag, q⟩ := x
  have u' : Unt cs G' := fun b o e => ub.free b o (c b o e) (v.on b o e).2
  have cB : ∀ b o, cs.lookup b = some o → B.get? b = some o := fun b o e => ub.keep b o (c b o e) (v.on b o e).2 (nf b o e)
  refine ⟨a, B, addC cs G', cls, d, e, fl, hok_up (view_add u') hok cB, ub_up v (view_add u') ub, ?_, os, ag, q u'⟩
  cases z : cs.lookup a with
  | none => rw [addC_out z]; exact na
  | some o =>
    have k := cB a o z
    rw [fl.2.1] at k
    cases k
variable {K : PySem.W.Frag} {mg : Str → Option Value} {base : Heap} {A : Around}
theorem env0_dn (v : View cs H G) (e0 : Env0 P w K mg base A outer s H) : Env0 P w K mg base A outer s G := by
  have n : ∀ b, H b = none → G b = none := fun b e => by
    cases q : cs.lookup b with
    | none => rw [← v.out b q]; exact e
    | some o => exact (v.on b o q).2
  exact ⟨e0.frames, e0.mod, fun b o e => ⟨(e0.bs b o e).1, n b (e0.bs b o e).2⟩, e0.bsz, e0.funs, fun b hb => n b (e0.frf b hb), hok_dn v e0.hok, e0.bare⟩
theorem env0_up (v : View cs H G) (c : ∀ b o, cs.lookup b = some o → s.heap.get? b = some o) (nb : ∀ b o, cs.lookup b = some o → base.get? b = none) (nf : ∀ b o, cs.lookup b = some o → b ∉ frs outer) (e0 : Env0 P w K mg base A outer s G) : Env0 P w K mg base A outer s H := by
  refine ⟨e0.frames, e0.mod, fun b o e => ⟨(e0.bs b o e).1, ?_⟩, e0.bsz, e0.funs, fun b hb => ?_, hok_up v e0.hok c, e0.bare⟩
  · cases q : cs.lookup b with
    | none => exact (v.out b q).trans (e0.bs b o e).2
    | some ob => rw [nb b ob q] at e; cases e
  · cases q : cs.lookup b with
    | none => exact (v.out b q).trans (e0.frf b hb)
    | some ob => exact absurd hb (nf b ob q)
end
/-! ### what a closure's cells hold -/
structure CSpec (cl : List (Str × Addr)) (fr : List Str) (ws : List (Option V)) (cs : Cs) : Prop where
  len : ws.length = fr.length
  all : ∀ y c, cl.lookup y = some c → ∃ o v, cs.lookup c = some o ∧ o.data = .cell v
  inj : ∀ x y c, cl.lookup x = some c → cl.lookup y = some c → x = y
  has : ∀ (i : Nat) (y : Str), fr[i]? = some y → ∃ c, cl.lookup y = some c ∧ ∀ v, ws[i]? = some (some v) → ∃ u o, RelV v u ∧ cs.lookup c = some o ∧ o.data = .cell (some u)
theorem cellsAt_of {cl : List (Str × Addr)} {fr : List Str} {ws : List (Option V)} {cs : Cs} {h : Heap} {G : Hp} (S : CSpec cl fr ws cs) (c : ∀ b o, cs.lookup b = some o → h.get? b = some o) (n : Unt cs G) : CellsAt cl fr ws h G := by
  refine ⟨S.len, fun y b e => ?_, S.inj, fun i y e => ?_⟩
  · obtain ⟨o, v, e1, e2⟩ := S.all y b e
    exact ⟨n b o e1, v, o, c b o e1, e2⟩
  · obtain ⟨b, e1, e2⟩ := S.has i y e
    refine ⟨b, e1, fun v ev => ?_⟩
    obtain ⟨u, o, r, e3, e4⟩ := e2 v ev
    exact ⟨u, r, o, c b o e3, e4⟩
theorem lk_mem {α : Type} {c : Addr} {v : α} : ∀ {l : List (Addr × α)}, l.lookup c = some v → (c, v) ∈ l
  | [], h => by cases h
  | (b, u) :: r, h => by
    have h2 : (match c == b with | true => some u | false => r.lookup c) = some v := h
    cases q : (c == b) with
    | true =>
      rw [q] at h2
      have e : u = v := Option.some.inj h2
      rw [beq_iff_eq.mp q, e]
      exact List.mem_cons_self
    | false =>
      rw [q] at h2
      exact List.mem_cons_of_mem _ (lk_mem h2)
theorem lk_some {α : Type} {c : Addr} {v : α} : ∀ {l : List (Addr × α)}, (c, v) ∈ l → ∃ u, l.lookup c = some u
  | [], h => by cases h
  | (b, u) :: r, h => by
    show ∃ z, (match c == b with | true => some u | false => r.lookup c) = some z
    cases q : (c == b) with
    | true => exact ⟨u, rfl⟩
    | false =>
      rcases List.mem_cons.mp h with e | h
      · injection e with e1 e2
        rw [e1] at q
        simp at q
      · exact lk_some h
/-- the cells of cl as they stand -/
def celLs (h : Heap) (cl : List (Str × Addr)) : Cs := cl.filterMap fun p => (cl.lookup p.1).bind fun c => (h.get? c).map fun o => (c, o)
theorem celLs_look {h : Heap} {cl : List (Str × Addr)} {c : Addr} {o : Obj} (e : (celLs h cl).lookup c = some o) : h.get? c = some o ∧ ∃ y, cl.lookup y = some c := by
  obtain ⟨p, hp, e1⟩ := List.mem_filterMap.mp (lk_mem e)
  cases e2 : cl.lookup p.1 with
  | none => rw [e2] at e1; cases e1
  | some c1 =>
    rw [e2] at e1
    have e1 : (h.get? c1).map (fun o => (c1, o)) = some (c, o) := e1
    cases e3 : h.get? c1 with
    | none => rw [e3] at e1; cases e1
    | some o1 =>
      rw [e3] at e1
      have e4 : (c1, o1) = (c, o) := Option.some.inj e1
      injection e4 with e5 e6
      rw [← e5, ← e6]
      exact ⟨e3, p.1, e2⟩
theorem celLs_has {h : Heap} {cl : List (Str × Addr)} {y : Str} {c : Addr} {o : Obj} (e : cl.lookup y = some c) (ho : h.get? c = some o) : (celLs h cl).lookup c = some o := by
  have m : (c, o) ∈ celLs h cl := List.mem_filterMap.mpr ⟨(y, c), PySem.mem_of_lookup e, by
    show (cl.lookup y).bind (fun c => (h.get? c).map fun o => (c, o)) = some (c, o)
    rw [e]
    show (h.get? c).map (fun o => (c, o)) = some (c, o)
    rw [ho] <;> rfl⟩
  obtain ⟨u, hu⟩ := lk_some m
  have z := (celLs_look hu).1
  rw [ho] at z
  rw [hu, ← Option.some.inj z]
theorem cspec_of {cl : List (Str × Addr)} {fr : List Str} {ws : List (Option V)} {h : Heap} {G : Hp} (C : CellsAt cl fr ws h G) : CSpec cl fr ws (celLs h cl) ∧ Unt (celLs h cl) G := by
  refine ⟨⟨C.len, fun y c e => ?_, C.inj, fun i y e => ?_⟩, fun b o e => ?_⟩
  · obtain ⟨_, v, o, ho, hd⟩ := C.all y c e
    exact ⟨o, v, celLs_has e ho, hd⟩
  · obtain ⟨c, e1, e2⟩ := C.has i y e
    refine ⟨c, e1, fun v ev => ?_⟩
    obtain ⟨u, r, o, ho, hd⟩ := e2 v ev
    exact ⟨u, o, r, celLs_has e1 ho, hd⟩
  · obtain ⟨_, y, e2⟩ := celLs_look e
    exact (C.all y b e2).1
/-! ### the rules -/
theorem fnO_nf {f : Addr} {F : NF} (o : Obj) : FnO f F ≠ .frz o (.own 0) := fun z => by
  unfold FnO at z
  cases z
theorem codeO_nf {c : Addr} {q : Str} (o : Obj) : LamX.CodeO c q ≠ .frz o (.own 0) := fun z => by
  unfold LamX.CodeO at z
  cases z
/-- f(e, ..): the name i holds a closure whose cells cs are tracked -/
def tClo (X : Cx) (j i : Nat) (E : L2.St → XK) (t : TA) : TE := fun σ H Q => ∃ (f : Addr) (F : NF) (cs : Cs) (fr ps : List Str) (ws : List (Option V)) (k : Nat) (sp : List (Option V) → Sp),
  σ[i]? = some (some (.ref f)) ∧ H f = some (FnO f F) ∧ NOk X.prog X.w X.K X.mg X.base (L2.CX X.prog X.w) k f F ps fr sp ∧ k ≤ j ∧ CSpec F.cl fr ws cs ∧ t σ H fun vs H1 => H1 f = some (FnO f F) ∧ H1 F.c = some (LamX.CodeO F.c F.qual) ∧ Trk cs H1 ∧
    sp ws vs (delC cs H1) (fun v H' => Unt cs H' → Q v (addC cs H')) (fun c d H' => Unt cs H' → E σ c d (addC cs H'))
section
variable {X : Cx} {i j : Nat} {x : Str} {W : WX} {t : TA} {e : Expr} {es : List Expr} {p pos : Pos}
theorem pe_clo (hr : Room j X.A) (tk : Takes X W) (hN : X.N[i]? = some x) (hv : Vis X.env.scope x) (ha : PA X (e :: es) t)
    (hd : (x == ("__debug__" : Str)) = false := by decide) (hcd : (x == ("__classdict__" : Str)) = false := by decide)
    (he : starEach (e :: es) X.env = (false, eval e X.env) :: starEach es X.env := by rfl) (hpl : (backTo pos (starEach es X.env)).any (·.1) = false := by rfl) :
    PE X (.Call (.Name x p) (e :: es) [] pos) (tClo X j i (WE W) t) := by
  refine ⟨fun pins s σ H Q I h => ?_⟩
  obtain ⟨f, F, cs, fr, ps, ws, k, sp, hs, hf, Fn, hk, S, ht⟩ := h
  refine wpAny_Call_Name_kw (thn ((pe_var (pos := p) hN hv hd hcd).run pins s σ H (fun v H1 => v = .ref f ∧ H1 = H) I ⟨.ref f, hs, rfl, rfl⟩) fun u s1 hu => ?_)
  obtain ⟨v, H1, I1, r1, ev, eH⟩ := hu
  subst ev
  rw [eH] at I1
  obtain rfl : u = Value.ref f := r1
  refine PySem.W.callWith_F (first := []) (fnAt_of I1 hf) (thn (ha.run pos pins s1 σ H _ I1 ht) fun us s2 hus => ?_) he hpl
  obtain ⟨vs, H2, I2, r, h1, h2, tr, q⟩ := hus
  refine ⟨fnAt_of I2 h1, ?_⟩
  show wpAny _ _ (call (.ref f) us) _ _ _
  have vw := view_del tr
  have c2 := hok_cell tr I2.hok
  have nf : ∀ b o, cs.lookup b = some o → b ∉ frs X.stack := fun b o e hb => by
    have z := I2.stkFree b hb
    rw [tr b o e] at z
    cases z
  refine wpAny_call (codeAny_mono (Fn.run X.A X.stack s2 (delC cs H2) us vs ws _ _ (hr.mono hk) (env0_dn vw I2.env0) (vw.dn h1 fnO_nf) (vw.dn h2 codeO_nf) (cellsAt_of S c2 unt_del) r q) fun rr s' hq => ?_)
  cases rr with
  | error er => exact passAt tk σ pins H2 s2 er s' I2 (cx_up vw c2 nf hq)
  | ok fl =>
    cases fl with
    | ret u => exact I2.after (ce_up vw c2 nf hq)
    | next => exact False.elim hq
    | brk => exact False.elim hq
    | cont => exact False.elim hq
end
/-- o.m(e, ..), the closure F among the arguments -/
def tMethC (C : Addr) (m : Str) (sp : Sp) (E : L2.St → XK) (cl : List (Str × Addr)) (fr : List Str) (js : List Nat) (ta : TE) (t : TA) : TE := fun σ H Q => ta σ H fun x H1 => ∃ a dx fs, x = .ref a ∧ H1 a = some (.ins C dx fs) ∧ fs.lookup m = none ∧ t σ H1 fun vs H2 =>
  ∀ cs, CSpec cl fr (js.map (slotAt σ)) cs → Unt cs H2 → sp (x :: vs) (addC cs H2) (fun v H' => Q v (delC cs H')) (fun c d H' => E σ c d (delC cs H'))
section
variable {X : Cx} {k : Nat} {f C : Addr} {fd : FuncData} {ps fr : List Str} {sp : Sp} {W : WX} {m : Str} {pos apos : Pos} {e o : Expr} {es : List Expr} {ta : TE} {t : TA} {cl : List (Str × Addr)} {js : List Nat}
theorem pe_methC {pl : Sem Bool} (he : PE X o ta) (c : Cls X.K C) (hm : Meth X.K C m f) (F : FnOk X.prog X.w X.K X.mg X.base (L2.CX X.prog X.w) k f fd ps sp) (hr : Room k X.A) (hb : Binds X.K fd ps []) (tk : Takes X W) (cp : X.Ok → Caps X cl fr js)
    (hfn : ∀ y c, cl.lookup y = some c → X.fn y = true) (ha : PA X (e :: es) t)
    (hst : starEach (e :: es) X.env = (false, eval e X.env) :: starEach es X.env := by rfl) (hpl : (backTo pos (starEach es X.env)).any (·.1) = false := by rfl)
    (ht : eval (.Call (.Attribute o m apos) (e :: es) [] pos) X.env = (do
      let ov ← eval o X.env
      standAt apos.atName
      let (f, first) ← holding [ov] (getMethod ov m pl)
      callWith pos f first (backTo pos (starEach (e :: es) X.env)) (backToKw pos (keywordEach [] X.env))) := by rfl) :
    PE X (.Call (.Attribute o m apos) (e :: es) [] pos) (tMethC C m sp (WE W) cl fr js ta t) := by
  refine ⟨fun pins s σ H Q I h => ?_⟩
  refine PySem.W.methodCall_KW (pl := pl) (thn (he.run pins s σ H _ I h) fun u s1 hu => ?_) ht
  obtain ⟨x, H1, I1, rx, a, dx, fs, ex, ea, l, q⟩ := hu
  subst ex
  obtain rfl : u = Value.ref a := rx
  refine getmeth_ok I1 ea c hm l ?_
  refine PySem.W.callWith_K (first := [.ref a]) (h₀ := X.base) I.ok.mod.kin hm.kp (thn (ha.run pos pins s1 σ H1 _ I1 q) fun us s2 hus => ?_) hst hpl
  obtain ⟨vs, H2, I2, r, q2⟩ := hus
  refine ⟨I2.kIn, ?_⟩
  have cc := cp I2.ok
  obtain ⟨S, U⟩ := cspec_of (cells_of I2 cc)
  have q3 := q2 _ S U
  have vw := view_add U
  have c2 : ∀ b o, (celLs s2.heap cl).lookup b = some o → s2.heap.get? b = some o := fun b o e => (celLs_look e).1
  have own : ∀ b o, (celLs s2.heap cl).lookup b = some o → X.s_0.heap.objs.size ≤ b ∧ b ≠ X.env.locals := fun b o e => by
    obtain ⟨_, y, e2⟩ := celLs_look e
    have e3 := cc.sub y b e2
    exact ⟨I2.ok.cab y b (hfn y b e2) e3, I2.cne y b e3⟩
  have nb : ∀ b o, (celLs s2.heap cl).lookup b = some o → X.base.get? b = none := fun b o e => Heap.get?_none_of_le (Nat.le_trans I2.ok.bsz (own b o e).1)
  have nf : ∀ b o, (celLs s2.heap cl).lookup b = some o → b ∉ frs X.stack := fun b o e hb => by
    rcases List.mem_cons.mp (I2.stkSub b hb) with z | z
    · exact (own b o e).2 z
    · obtain ⟨_, ob, ho, _⟩ := I2.ok.funs.mem z
      exact absurd (Nat.lt_of_lt_of_le (Heap.lt_size ho) (own b o e).1) (Nat.lt_irrefl _)
  have hl : (.ref a :: us).length = ps.length := by
    rw [List.length_cons, ← r.length]
    exact F.len _ _ _ _ q3
  have b := hb s2 (.ref a :: us) I2.kIn (by rw [List.append_nil]; exact hl)
  rw [List.append_nil] at b
  show wpAny _ _ (call (.ref f) (.ref a :: us)) _ _ _
  refine wpAny_call (codeAny_mono (F.run X.A X.stack s2 _ ⟨.ref a :: us, []⟩ (.ref a :: us) (.ref a :: vs) _ _ hr (env0_up vw c2 nb nf I2.env0) b (.cons rfl r) q3) fun rr s' hq => ?_)
  cases rr with
  | error er => exact passAt tk σ pins H2 s2 er s' I2 (cx_dn vw c2 hq)
  | ok fl =>
    cases fl with
    | ret u => exact I2.after (ce_dn vw c2 nf hq)
    | next => exact False.elim hq
    | brk => exact False.elim hq
    | cont => exact False.elim hq
end
end Des
end T_DRuleB
section T_DRuleC
set_option linter.all false
set_option maxRecDepth 100000
set_option maxHeartbeats 2000000
/-! Own rules: dict(tuple of pairs), len(own instance), enumerate(tuple), an own method that may raise. -/
namespace Des
open PySem PySem.Spec PyProof.Rows L2
section
variable {X : Cx} {pins : List (Addr × Obj)} {σ : L2.St} {H : Hp} {s : Shared}
/-- the pairs as they stand -/
theorem pairs_raw (I : Inv X pins σ H s) : ∀ {ps : List Addr} {kvs : List (Key × V)}, Paired (fun p kv => SqT X.K H p [kV kv.1, kv.2]) ps kvs →
    ∃ (raw : List (Value × Value)) (prs : List (Key × Value)), KV kvs prs ∧ raw.length = ps.length ∧ prs.length = ps.length ∧
      ∀ (j : Nat) (k v : Value), raw[j]? = some (k, v) → ∃ p key, ps[j]? = some p ∧ s.heap.IsTuple p #[k, v] ∧ prs[j]? = some (key, v) ∧ keyIs key k = true
  | _, _, .nil => ⟨[], [], .nil, rfl, rfl, fun j k v e => by simp at e⟩
  | _, _, .cons (a := p) (b := kv) h t => by
    obtain ⟨raw, prs, r, l1, l2, f⟩ := pairs_raw I t
    obtain ⟨its, rv, ht, _⟩ := I.tuple h
    obtain ⟨u, y, ei, ru, ry⟩ := vals2 rv
    subst ei
    refine ⟨(u, y) :: raw, (kv.1, y) :: prs, .cons ⟨rfl, ry⟩ r, by rw [List.length_cons, List.length_cons, l1], by rw [List.length_cons, List.length_cons, l2], fun j k v e => ?_⟩
    cases j with
    | zero =>
      have e' : (u, y) = (k, v) := Option.some.inj e
      injection e' with e1 e2
      subst e1 e2
      exact ⟨p, kv.1, rfl, ht, rfl, kV_is (P := X.prog) (w := X.w) ru⟩
    | succ j =>
      obtain ⟨q, key, e1, e2, e3, e4⟩ := f j k v (by simpa using e)
      exact ⟨q, key, by simpa using e1, e2, by simpa using e3, e4⟩
end
/-- a tuple that stands for good, of which it is known that it has no attributes -/
def SqZ (H : Hp) (a : Addr) (xs : List V) : Prop := ∃ o : Obj, H a = some (.frz o (.tup xs)) ∧ o.dict = none
theorem SqZ.t {K : PySem.W.Frag} {H : Hp} {a : Addr} {xs : List V} (h : SqZ H a xs) : SqT K H a xs := by
  obtain ⟨o, e, _⟩ := h
  exact .inl (.inr ⟨o, e⟩)
/-- tuple(l), l a list -/
theorem call_tupleZ {X : Cx} : CallR X (.type "tuple") (fun xs H Q => ∃ p ys, xs = [.ref p] ∧ SqL X.K H p ys ∧ ∀ l o, H l = none → o.dict = none → Q (.ref l) (upd H l (.frz o (.tup ys)))) := by
  intro pins s σ H xs us Q I r h
  obtain ⟨p, ys, rfl, hq, q⟩ := h
  obtain ⟨u, rfl, rx⟩ := vals1 r
  cases rx
  obtain ⟨its, r', pl, hz⟩ := I.list hq
  have hlen := r'.length
  refine call_tuple_list pl.isList (fun h' kp => ?_) (by simp only [List.size_toArray]; omega)
  have I1 : Inv X pins σ H { s with heap := h' } := I.kept (t' := s.toks) kp
  have e : (h'.push ({ cls := .type "tuple", data := .seq its.toArray } : Obj)).get? h'.objs.size = some { cls := .type "tuple", data := .seq its.toArray } := Heap.get?_push_size _ rfl
  have I2 : Inv X pins σ (upd H h'.objs.size (.frz { cls := .type "tuple", data := .seq its.toArray } (.tup ys))) { s with heap := h'.push { cls := .type "tuple", data := .seq its.toArray } } :=
    I1.laid (t' := s.toks) (fun b o z => Heap.get?_push_of_some _ z) (Nat.le_refl _) (show ObjOk X.prog X.w _ _ _ (.frz _ (.tup ys)) from ⟨e, hz, its, r', ⟨_, e, rfl, _, rfl⟩⟩)
  exact ⟨.ref h'.objs.size, _, I2, rfl, q _ _ (I1.hok.fresh (Nat.le_refl _)) rfl⟩
/-- dict(t), t a tuple of pairs -/
theorem call_dictT {X : Cx} (hcalm : X.calm = true) : CallR X (.type "dict") (fun xs H Q => ∃ (a : Addr) (ps : List Addr) (kvs : List (Key × V)), xs = [.ref a] ∧ SqZ H a (ps.map V.ref) ∧ Paired (fun p kv => SqT X.K H p [kV kv.1, kv.2]) ps kvs ∧
    ∀ p, H p = none → Q (.ref p) (upd H p (.dK (mergeK [] kvs)))) := by
  intro pins s σ H xs us Q I r q
  obtain ⟨a, ps, kvs, ex, ⟨o, hq, hdn⟩, hp, q⟩ := q
  subst ex
  obtain ⟨u, eu, rx⟩ := vals1 r
  subst eu
  cases rx
  obtain ⟨ho, hz, its, rv, o2, ho2, hc, n, hdat⟩ := (show ObjOk X.prog X.w H s.heap a (.frz o (.tup (ps.map V.ref))) from I.hok a _ hq)
  rw [ho] at ho2
  obtain rfl : o = o2 := Option.some.inj ho2
  have ei := refs_at rv
  subst ei
  rw [List.length_map] at hz
  obtain ⟨raw, prs, rel, l1, l2, f⟩ := pairs_raw I hp
  have hhd : X.A.handled = none := I.ok.hd hcalm
  have hdt : o.data = .seq (ps.map Value.ref).toArray n := hdat
  refine PySem.call_dict_pairs (knd := mixKind X.prog X.w) (kvs := prs) (PairArg.tuple a (ps.map Value.ref).toArray (fun j => ps.getD j 0) raw) hhd ⟨⟨o, n, ho, hc, hdn, hdt⟩, by simp [l1], fun j k v e => ?_⟩ ⟨by rw [l2, l1], fun j k v e => ?_⟩ (by rw [l1]; exact hz) fun h' tk hd' hk => ?_
  · obtain ⟨p, key, e1, e2, _⟩ := f j k v e
    have e3 : ps.getD j 0 = p := by rw [List.getD_eq_getElem?_getD, e1] <;> rfl
    show _ = some (Value.ref (ps.getD j 0)) ∧ PairAt s.heap (ps.getD j 0) k v
    rw [e3]
    exact ⟨by simp [e1], .inl e2⟩
  · obtain ⟨p, key, _, _, e3, e4⟩ := f j k v e
    exact ⟨key, e3, e4⟩
  · have hm : (s.heap.objs.size == sysModules) = false := beq_eq_false_iff_ne.mpr (Nat.ne_of_gt I.big)
    have hlen : (mergeK [] kvs).length ≤ sizeLine := by
      refine Nat.le_trans (length_mergeK kvs []) ?_
      rw [List.length_nil, Nat.zero_add, rel.length, l2]
      exact hz
    have kp : ∀ b oo, s.heap.get? b = some oo → h'.get? b = some oo := fun b oo e => hk b oo (by simp) e
    exact ⟨.ref s.heap.objs.size, _, I.laid (t' := tk) kp (Nat.le_refl _) (show ObjOk X.prog X.w _ _ _ (.dK (mergeK [] kvs)) from ⟨hlen, hm, merged [] prs, KV.merge rel .nil, hd'⟩), rfl, q _ (I.hok.fresh (Nat.le_refl _))⟩
/-! ### len(o), o an instance of an own class with __len__ -/
theorem call_lenOwn {X : Cx} {CX : CXT} {k : Nat} {C f : Addr} {fd : FuncData} {ps : List Str} {sp : Sp} {E : XK} (mt : Meth X.K C "__len__" f) (F : FnOk X.prog X.w X.K X.mg X.base CX k f fd ps sp) (hr : Room (k + 1) X.A) (hb : Binds X.K fd ps []) (hx : Passes CX X E) :
    CallR X (.builtin "len") (fun xs H Q => ∃ a dx fs, xs = [.ref a] ∧ H a = some (.ins C dx fs) ∧ sp [.ref a] H (fun v H' => ∃ n : Int, v = .int n ∧ 0 ≤ n ∧ n < 2 ^ 63 ∧ Q (.int n) H') E) := by
  intro pins s σ H xs us Q I r q
  obtain ⟨a, dx, fs, ex, ea, q⟩ := q
  subst ex
  obtain ⟨u, eu, rx⟩ := vals1 r
  subst eu
  cases rx
  obtain ⟨mA, O, _, _, _, _⟩ := ins_get I.hok ea
  obtain ⟨od, J, _⟩ := O.look
  obtain ⟨m, fr⟩ := I.fr
  have hl : ([Value.ref a] : List Value).length = ps.length := F.len _ _ _ _ q
  have b := hb s [.ref a] I.kIn (by rw [List.append_nil]; exact hl)
  rw [List.append_nil] at b
  refine PySem.W.len_K fr I.ok.mod.kin J mt.at_ mt.fn (wpAny_call (codeAny_mono (F.run X.A.in1 X.stack s H ⟨[.ref a], []⟩ [.ref a] [.ref a] _ E hr.in1 I.env0.in1 b (.cons rfl .nil) q) fun rr s' hq => ?_))
  cases rr with
  | error er => exact hx pins σ H s er s' I hq
  | ok fl =>
    cases fl with
    | ret u =>
      obtain ⟨v, H', I3, rv, n, ev, h0, h1, q3⟩ := I.after hq
      subst ev
      obtain ⟨t, rfl⟩ := rv
      exact ⟨⟨h0, h1⟩, .int n, H', I3.tok _, ⟨_, rfl⟩, q3⟩
    | next => exact False.elim hq
    | brk => exact False.elim hq
    | cont => exact False.elim hq
/-! ### enumerate(t), t a tuple -/
def IteT (K : PySem.W.Frag) (a : Addr) : It :=
  ⟨fun i H => ∃ (xs : List V) (x : V), SqT K H a xs ∧ xs[i]? = some x, fun i H v H' => ∃ T x, v = .ref T ∧ H T = none ∧ H' = upd H T (.tup [.int (i : Nat), x]) ∧ ∀ xs, SqT K H a xs → xs[i]? = some x,
    fun i H => ∃ xs : List V, SqT K H a xs ∧ xs.length ≤ i⟩
theorem meets_enumT {v : Value} {o : Obj} {HH : Heap → Prop} (B : Begins v o HH) :
    Meets (Builtin.«enumerate.__new__» ⟨[.type "enumerate", v], []⟩) (fun _ R s => HH s.heap ∧
      R (.ok (.ret (.ref (s.heap.push o).objs.size))) { s with heap := (s.heap.push o).push { cls := .type "enumerate", data := .fields #[.none, .bool false, .ref s.heap.objs.size, rawInt 0, .none, .none] } }) :=
  .of_wp fun prog w A R s h => by
    obtain ⟨hp, g, d, tk, os⟩ := s
    obtain ⟨h1, h⟩ := h
    have hsub := sub_enumerate
    have q1 : ∀ {A' : Around} {E : Value → Shared → Prop} {Q : Value → Shared → Prop}, Q (.ref hp.objs.size) ⟨hp.push o, g, d, tk, os⟩ → wpAny (model prog w) A' (pyIter v) Q E ⟨hp, g, d, tk, os⟩ :=
      fun q => B.iter prog w _ _ ⟨hp, g, d, tk, os⟩ _ h1 q
    wp_walk using q1
    refine wpAny_stack_any fun st => wpAny_pure ?_
    split
    · rename_i c _ _ _ _ _
      cases (c == Value.type "enumerate")
      · wp_walk using q1
        exact ⟨_, rfl, h⟩
      · wp_walk using q1
        exact ⟨_, rfl, h⟩
    · wp_walk using q1
      exact ⟨_, rfl, h⟩
theorem enumT_begins {prog : Program} {w : World} {A : Around} {E : Value → Shared → Prop} {s : Shared} {v : Value} {o : Obj} {HH : Heap → Prop} {Q : Value → Shared → Prop} (B : Begins v o HH) (h1 : HH s.heap)
    (h : ∀ h', IsEnum h' (s.heap.objs.size + 1) s.heap.objs.size 0 .none → h'.get? s.heap.objs.size = some o → (∀ b o, s.heap.get? b = some o → h'.get? b = some o) → Q (.ref (s.heap.objs.size + 1)) { s with heap := h' }) :
    wpAny (model prog w) A (call (.type "enumerate") [v]) Q E s := by
  refine callType_new F.called_enumerate (by decide) (F.typeCall_enumerate_1 _) (F.newCall_enumerate_1 _) (fun obj => F.args_object_init_2 obj _) F.entry_enumerate_new (meets_enumT B) ⟨h1, ?_⟩
  have hz : (s.heap.push o).objs.size = s.heap.objs.size + 1 := Heap.size_push ..
  show _ ∧ _
  rw [hz]
  have he : IsEnum ((s.heap.push o).push { cls := .type "enumerate", data := .fields #[.none, .bool false, .ref s.heap.objs.size, rawInt 0, .none, .none] }) (s.heap.objs.size + 1) s.heap.objs.size 0 .none := by
    have z := Heap.get?_push_size (s.heap.push o) (o := { cls := .type "enumerate", data := .fields #[.none, .bool false, .ref s.heap.objs.size, rawInt 0, .none, .none] }) rfl
    rw [hz] at z
    exact z
  exact ⟨⟨_, he, rfl⟩, h _ he (Heap.get?_push_of_some _ (Heap.get?_push_size _ B.free)) fun b o x => Heap.get?_push_of_some _ (Heap.get?_push_of_some _ x)⟩
theorem turn_enumT {P : Program} {w : World} {K : PySem.W.Frag} {elts : List Expr} {kk : Nat} {tpos : Pos} (a e it : Addr) :
    Turn P w K (.Tuple elts kk tpos) (IteT K a) [e, it] e (fun i h => (∃ old, IsEnum h e it ((i : Nat) : Int) old) ∧ h.IsTupleIter it a i ∧ e ≠ it) where
  mem := by simp
  obj := fun i h st b hb => by
    obtain ⟨⟨old, he⟩, ⟨o, ho, hc, hd⟩, _⟩ := st
    rcases (show b = e ∨ b = it by simpa using hb) with z | z
    · rw [z]; exact ⟨_, he, fun v q => nomatch q⟩
    · rw [z]; exact ⟨o, ho, fun v q => by rw [hd] at q; cases q⟩
  keep := fun i h h' st k => by
    obtain ⟨⟨old, he⟩, hi, hne⟩ := st
    exact ⟨⟨old, k e (by simp) _ he⟩, hi.at fun o q => k it (by simp) o q, hne⟩
  item := by
    intro X hP hw hK hc i pins s σ H E I hf st hg
    subst hP hw hK
    obtain ⟨⟨old, he⟩, hit, hne⟩ := st
    obtain ⟨xs, x, hq, hx⟩ := hg
    obtain ⟨its, rv, p, hz⟩ := I.tuple hq
    obtain ⟨u, hu, ru⟩ := rv.get hx
    have hel : e < s.heap.objs.size := Heap.lt_size he
    have hil : it < s.heap.objs.size := by
      obtain ⟨_, q, _⟩ := hit
      exact Heap.lt_size q
    have hea : e ≠ a := fun z => by
      obtain ⟨o, ho, hcl, _⟩ := id p
      rw [← z, he] at ho
      cases ho
      have z2 : Value.type "enumerate" = Value.type "tuple" := hcl
      exact absurd z2 (by decide)
    have hita : a ≠ it := fun z => by
      obtain ⟨o, ho, _, n, hdd⟩ := id p
      obtain ⟨o2, ho2, _, hdd2⟩ := id hit
      rw [z, ho2] at ho
      cases ho
      rw [hdd2] at hdd
      cases hdd
    have D : Draws X.prog X.w X.A.in1 it [it, a] its.toArray.size (fun i v => its.toArray[i]? = some v) (fun i h => h.IsTupleIter it a i ∧ h.IsTuple a its.toArray) := Draws.tuple (A := X.A.in1) (show X.A.in1.handled = none from I.ok.hd hc) it a hita its.toArray
    have hil2 : i < its.toArray.size := by
      have z := (List.getElem?_eq_some_iff.mp hu).1
      simpa using z
    refine wpAny_pyNext_enum_itemD D he ⟨hit, p⟩ hil2 hne (by simp [hne, hea]) fun x1 h' tk hx1 ho hst hT hsz hk => ?_
    have ex1 : x1 = u := by
      have z : its.toArray[i]? = some u := by simpa using hu
      rw [z] at hx1
      exact (Option.some.inj hx1).symm
    subst ex1
    refine ⟨_, rfl, wpAny_letOwnedTupleGo_enum (s := { s with heap := h', toks := tk + 1 }) ho fun h'' he' sb => ?_⟩
    have hT2 : h''.get? s.heap.objs.size = some { cls := .type "tuple", data := .seq #[.int i tk, x1] } := (sb.2 _ (Nat.ne_of_gt hel)).trans hT
    have new : ObjOk X.prog X.w (upd H s.heap.objs.size (.tup [.int (i : Nat), x])) h'' s.heap.objs.size (.tup [.int (i : Nat), x]) :=
      ⟨by show 2 ≤ sizeLine; decide, [.int i tk, x1], .cons ⟨_, rfl⟩ (.cons ru .nil), ⟨_, hT2, rfl, _, rfl⟩⟩
    have I1 : Inv X pins σ (upd H s.heap.objs.size (.tup [.int (i : Nat), x])) { s with heap := h'', toks := tk + 1 } :=
      I.turnedNew (ch := [e, it]) (fun b ob hb q => (sb.2 b (fun z => hb (by simp [z]))).trans (hk b ob (fun z => hb (by simp [z])) (fun z => hb (by simp [z])) q)) hf (Nat.le_refl _) new
    refine ⟨.ref s.heap.objs.size, _, I1, rfl, ⟨_, x, rfl, I.hok.fresh (Nat.le_refl _), rfl, fun ys hy => by rw [I.tuple_inj hy hq]; exact hx⟩, ⟨⟨x1, ?_⟩, hst.1.at fun o q => (sb.2 it (Ne.symm hne)).trans q, hne⟩, fun b hb => ?_⟩
    · have e1 : ((i + 1 : Nat) : Int) = (i : Int) + 1 := by omega
      rw [e1]
      exact he'
    · have hb' : b < s.heap.objs.size := by
        rcases (show b = e ∨ b = it by simpa using hb) with z | z
        · rw [z]; exact hel
        · rw [z]; exact hil
      rw [upd_ne (Nat.ne_of_lt hb')]
      exact (hf b hb).1
  done := by
    intro X hP hw hK hc i pins s σ H E I hf st hg
    subst hP hw hK
    obtain ⟨⟨old, he⟩, hit, hne⟩ := st
    obtain ⟨xs, hq, hx⟩ := hg
    obtain ⟨its, rv, p, hz⟩ := I.tuple hq
    obtain ⟨f0, f1, f2, f3, f4, f5⟩ := hf it (by simp)
    have hl := rv.length
    have hita : a ≠ it := fun z => by
      obtain ⟨o, ho, _, n, hdd⟩ := id p
      obtain ⟨o2, ho2, _, hdd2⟩ := id hit
      rw [z, ho2] at ho
      cases ho
      rw [hdd2] at hdd
      cases hdd
    have hh : X.A.in1.handled = none := I.ok.hd hc
    unfold pyNext
    have hT : s.TypeIs (.ref e) "enumerate" := ⟨_, he, rfl⟩
    refine wpAny_bind (wpAny_attempt (wpAny_callSpecial?_slot (name := Str.ofString "__next__") hT F.slot_enumerate_next (wpAny_call_entry F.slot_enumerate_next hT F.entry_enumerate_next ?_ (F.args_enumerate_next_1 _))))
    show wpAny _ _ (field (.ref e) 2 >>= _) _ _ _
    refine wpAny_bind (wpAny_field he rfl (x := .ref it) rfl ?_)
    refine wpAny_bind (wpAny_nextOf_tuple_end hh hit p (by simp; omega) fun h' x he' hx' => ?_)
    obtain ⟨o, ho, hcl⟩ := hx'
    refine wpAny_bind (wpAny_isInstance (T := "StopIteration") (b := true) ⟨o, ho, hcl⟩ isSubtype_stop ?_)
    exact wpAny_pure ⟨rfl, I.turned (t' := s.toks) (fun b o hb q => he' b o hb q) f0 f1 f3 f4 f5⟩
  self := fun A i s Q E st h => by
    obtain ⟨⟨_, he⟩, _⟩ := st
    exact wpAny_pyIter_enum he h
def iEnumT (K : PySem.W.Frag) (ta : TA) : TI := fun σ H R => ta σ H fun vs H1 => ∃ a xs, vs = [.ref a] ∧ SqT K H1 a xs ∧ R (IteT K a) H1
theorem pi_enumT {X : Cx} {e : Expr} {ta : TA} {p pos tpos : Pos} {elts : List Expr} {kk : Nat} (hg : Gl X "enumerate") (hm : X.mg "enumerate" = none) (ha : PA X [e] ta) (hs : starEach [e] X.env = [(false, eval e X.env)] := by rfl) :
    PI X (.Tuple elts kk tpos) (.Call (.Name "enumerate" p) [e] [] pos) (iEnumT X.K ta) := by
  refine ⟨fun pins s σ H R I h => ?_⟩
  refine Call_ (ld_blt I hg hm boot_enumerate (PyProof.Rows.callWith_type1 (thn (ha.run pos pins s σ H _ I h) fun us s1 hu => ?_) hs rfl))
  obtain ⟨vs, H1, I1, r1, a, xs, ex, hq, q⟩ := hu
  subst ex
  cases r1 with
  | cons r rr =>
    cases rr
    cases r
    obtain ⟨its, rv, p', hz⟩ := I1.tuple hq
    refine enumT_begins (begins_tuple a its.toArray) p' fun h' he hit hk => wpAny_pyIter_enum he ?_
    have I2 : Inv X pins σ H1 { s1 with heap := h' } := I1.kept (t' := s1.toks) hk
    refine ⟨s1.heap.objs.size + 1, [s1.heap.objs.size + 1, s1.heap.objs.size], _, _, H1, rfl, I2, turn_enumT a (s1.heap.objs.size + 1) s1.heap.objs.size, ⟨⟨.none, he⟩, ⟨_, hit, rfl, rfl⟩, Nat.succ_ne_self _⟩, fun b hb => ?_, q⟩
    have hle : s1.heap.objs.size ≤ b := by
      rcases (show b = s1.heap.objs.size + 1 ∨ b = s1.heap.objs.size by simpa using hb) with z | z
      · rw [z]; exact Nat.le_add_right _ _
      · rw [z]; exact Nat.le_refl _
    exact I1.fpOk hle (I1.hok.fresh hle)
/-- a loop over enumerate of a tuple -/
theorem for_enumT {K : PySem.W.Frag} {a : Addr} {xs : List V} {g : TG} {tb : TS} {D : Ends} {σ : L2.St} {H : Hp} (Pv : Nat → L2.St → Hp → Prop) (h0 : Pv 0 σ H) (hq : ∀ i σ H, Pv i σ H → SqT K H a xs)
    (hs : ∀ (i : Nat) (x : V) (T : Addr) (σ : L2.St) (H : Hp), xs[i]? = some x → Pv i σ H → H T = none → g (.ref T) σ (upd H T (.tup [.int (i : Nat), x])) fun σ2 H2 => tb { D with nx := Pv (i + 1), ct := Pv (i + 1), bk := D.nx } σ2 H2) (hd : ∀ σ H, Pv xs.length σ H → D.nx σ H) :
    ∃ W : Nat → Nat → L2.St → Hp → Prop, (∃ m, W 0 m σ H) ∧ ∀ i m σ H, W i m σ H →
      ((IteT K a).stop i H ∧ D.nx σ H) ∨ ((IteT K a).go i H ∧ ∃ N : L2.St → Hp → Prop, (∀ σ' H', N σ' H' → ∃ m', m' < m ∧ W (i + 1) m' σ' H') ∧ ∀ v H', (IteT K a).yld i H v H' → g v σ H' fun σ2 H2 => tb { D with nx := N, ct := N, bk := D.nx } σ2 H2) := by
  refine ⟨fun i m σ H => m = xs.length - i ∧ i ≤ xs.length ∧ Pv i σ H, ⟨xs.length, rfl, Nat.zero_le _, h0⟩, ?_⟩
  rintro i m σ H ⟨rfl, hi, p⟩
  have qx := hq i σ H p
  by_cases hlt : i < xs.length
  · have hx : xs[i]? = some xs[i] := List.getElem?_eq_getElem hlt
    refine .inr ⟨⟨xs, _, qx, hx⟩, Pv (i + 1), fun σ' H' p' => ⟨xs.length - (i + 1), by omega, rfl, hlt, p'⟩, fun v H' y => ?_⟩
    obtain ⟨T, x', rfl, hT, rfl, f1⟩ := y
    exact hs i x' T σ H (f1 xs qx) p hT
  · have e : i = xs.length := by omega
    subst e
    exact .inl ⟨⟨xs, qx, Nat.le_refl _⟩, hd σ H p⟩
/-! ### o.m(..) that may raise, wished for at the slots as they stand -/
def tMethX (C : Addr) (m : Str) (sp : Sp) (E : L2.St → XK) (ta : TE) (t : TA) : TE := fun σ H Q => ta σ H fun x H1 => ∃ a dx fs, x = .ref a ∧ H1 a = some (.ins C dx fs) ∧ fs.lookup m = none ∧ t σ H1 fun vs H2 => sp (x :: vs) H2 Q (E σ)
section
variable {X : Cx} {CX : CXT} {k : Nat} {f C : Addr} {fd : FuncData} {ps : List Str} {sp : Sp} {E : L2.St → XK} {m : Str} {pos apos : Pos} {e o : Expr} {es : List Expr} {ta : TE} {t : TA}
theorem pe_methX {pl : Sem Bool} (he : PE X o ta) (c : Cls X.K C) (hm : Meth X.K C m f) (F : FnOk X.prog X.w X.K X.mg X.base CX k f fd ps sp) (hr : Room k X.A) (hb : Binds X.K fd ps []) (hx : ∀ σ, PassesAt CX X σ (E σ)) (ha : PA X (e :: es) t)
    (hst : starEach (e :: es) X.env = (false, eval e X.env) :: starEach es X.env := by rfl) (hpl : (backTo pos (starEach es X.env)).any (·.1) = false := by rfl)
    (ht : eval (.Call (.Attribute o m apos) (e :: es) [] pos) X.env = (do
      let ov ← eval o X.env
      standAt apos.atName
      let (f, first) ← holding [ov] (getMethod ov m pl)
      callWith pos f first (backTo pos (starEach (e :: es) X.env)) (backToKw pos (keywordEach [] X.env))) := by rfl) :
    PE X (.Call (.Attribute o m apos) (e :: es) [] pos) (tMethX C m sp E ta t) := by
  refine ⟨fun pins s σ H Q I h => ?_⟩
  refine PySem.W.methodCall_KW (pl := pl) (thn (he.run pins s σ H _ I h) fun u s1 hu => ?_) ht
  obtain ⟨x, H1, I1, rx, a, dx, fs, ex, ea, l, q⟩ := hu
  subst ex
  obtain rfl : u = Value.ref a := rx
  refine getmeth_ok I1 ea c hm l ?_
  refine PySem.W.callWith_K (first := [.ref a]) (h₀ := X.base) I.ok.mod.kin hm.kp (thn (ha.run pos pins s1 σ H1 _ I1 q) fun us s2 hus => ?_) hst hpl
  obtain ⟨vs, H2, I2, r, q2⟩ := hus
  exact ⟨I2.kIn, run_fnS (us := .ref a :: us) (vs := .ref a :: vs) F hr hb (hx σ) I2 (.cons rfl r) q2⟩
theorem pe_methX0 {pl : Sem Bool} (he : PE X o ta) (c : Cls X.K C) (hm : Meth X.K C m f) (F : FnOk X.prog X.w X.K X.mg X.base CX k f fd ps sp) (hr : Room k X.A) (hb : Binds X.K fd ps []) (hx : ∀ σ, PassesAt CX X σ (E σ))
    (ht : eval (.Call (.Attribute o m apos) [] [] pos) X.env = (do
      let ov ← eval o X.env
      standAt apos.atName
      let (f, first) ← holding [ov] (getMethod ov m pl)
      callWith pos f first (backTo pos (starEach [] X.env)) (backToKw pos (keywordEach [] X.env))) := by rfl) :
    PE X (.Call (.Attribute o m apos) [] [] pos) (tMethX C m sp E ta tNil) := by
  refine ⟨fun pins s σ H Q I h => ?_⟩
  refine PySem.W.methodCall_KW (pl := pl) (thn (he.run pins s σ H _ I h) fun u s1 hu => ?_) ht
  obtain ⟨x, H1, I1, rx, a, dx, fs, ex, ea, l, q⟩ := hu
  subst ex
  obtain rfl : u = Value.ref a := rx
  refine getmeth_ok I1 ea c hm l ?_
  exact PySem.W.callWith_K0 (first := [.ref a]) I1.kIn hm.kp (run_fnS (us := [.ref a]) (vs := [.ref a]) F hr hb (hx σ) I1 (.cons rfl .nil) q)
end
end Des
end T_DRuleC
section T_DRuleD
set_option linter.all false
set_option maxRecDepth 100000
set_option maxHeartbeats 2000000
/-! Own rule: a dict comprehension whose keys are tuples. -/
namespace Des
open PySem PySem.Spec PyProof.Rows L2
section
variable {X : Cx}
/-- a store under a tuple, within a comprehension -/
theorem set_tupKey {pins : List (Addr × Obj)} {σ : L2.St} {H : Hp} {s : Shared} {E : Value → Shared → Prop} {dk b : Addr} {es : List (List Key × V)} {ks : List Key} {z : V} {uz : Value} {R : Unit → Shared → Prop} (room : X.A.units < cLine)
    (I : Inv X pins σ H s) (at_ : H dk = some (.dT es)) (small : es.length < sizeLine) (key : H b = some (.tup (ks.map kV))) (rz : RelV z uz)
    (go : ∀ s', Inv X pins σ (upd H dk (.dT (putK es ks z))) s' → R () s') : wpAny (model X.prog X.w) X.A (dictSet dk (.ref b) uz) R E s := by
  obtain ⟨z0, nsys, ents, pr, dd⟩ := dt_of I.hok at_
  have len1 : ents.length ≤ sizeLine := (Paired.length pr) ▸ z0
  have len2 : (putK es ks z).length ≤ sizeLine := Nat.le_trans (length_putK es ks z) small
  refine wpAny_dictSet_heap (hsz := len1) (show (tupleKind (mixKind X.prog X.w)).room X.A from room) (key_of I.hok key) dd fun hp dd2 same => go _ ?_
  obtain ⟨ob, arr, ep, g1, g2, g3, g4, _, g5⟩ := dd2
  have kept : KT (upd H dk (.dT (putK es ks z))) (putK es ks z) (storedH ents ks b uz) := (pr.put ks key rz).keeps fun c ys ec => (upd_ne (fun e => by rw [e, at_] at ec; cases ec)).trans ec
  exact d_write I (by rw [at_]; trivial) same ⟨ob, g1⟩ ⟨len2, nsys, _, kept, ob, arr, ep, g1, g2, g3, g4, g5⟩
def tDcT (wi : TI) (g : TG) (tk tv : TE) (vs : List Nat) : TE := fun σ H Q => wi σ H fun J H1 => ∀ dk, H1 dk = none → ∃ W : Nat → Nat → Hp → Prop, (∃ m, W 0 m (upd H1 dk (.dT []))) ∧ ∀ i m G, W i m G →
  (J.stop i G ∧ Q (.ref dk) G) ∨ (J.go i G ∧ ∃ Nx : Hp → Prop, (∀ G', Nx G' → ∃ m', m' < m ∧ W (i + 1) m' G') ∧ ∀ x G', J.yld i G x G' → g x (wipe σ vs) G' fun σ2 G2 => wipe σ2 vs = wipe σ vs ∧
    tk σ2 G2 fun y G4 => tv σ2 G4 fun z G5 => ∃ es ks b, y = .ref b ∧ G5 dk = some (.dT es) ∧ G5 b = some (.tup (ks.map kV)) ∧ es.length < sizeLine ∧ Nx (upd G5 dk (.dT (putK es ks z))))
theorem pe_dcT {kx vx tg iter : Expr} {scope : Scope} {own : List (Str × Nat)} {pos : Pos} {wi : TI} {g : TG} {tk tv : TE} (calm : X.calm = true) (room : X.A.units < cLine) (nd : X.N.Nodup) (itr : PI X tg iter wi) (blk : BlkOk X.N X.env.scope scope own)
    (pg : ∀ (s : Shared) (H : Hp) (C : Addr) (cl : List (Str × Addr)) (fp : List Addr), PG (X.blk s H scope (compEnvC scope cl C X.env) fp) tg g)
    (pk : ∀ (s : Shared) (H : Hp) (C : Addr) (cl : List (Str × Addr)) (fp : List Addr), PE (X.blk s H scope (compEnvC scope cl C X.env) fp) kx tk)
    (pv : ∀ (s : Shared) (H : Hp) (C : Addr) (cl : List (Str × Addr)) (fp : List Addr), PE (X.blk s H scope (compEnvC scope cl C X.env) fp) vx tv) (fold : ∀ x, foldedSetIterable iter X.env x = pure x := by intro _; rfl) :
    PE X (.DictComp kx vx [⟨tg, iter, [], 0⟩] scope pos) (tDcT wi g tk tv (own.map (·.2))) := by
  refine ⟨fun pins s σ H Q I h => ?_⟩
  rw [arm_eval_DictComp]
  have fv : ∀ y ∈ scope.names, y.2 = .free → ∃ c, X.env.cells.lookup y.1 = some c := fun y hy e => (blk.free y hy e).elim (fun k => I.ok.has _ (.inl k)) fun k => I.ok.has _ (.inr k)
  refine wpAny_comprehension_free (use := none) rfl fold (closure_ok fv) blk.kind (fun y hy e => by rw [blk.uniq y hy, e]) (thn (itr.run pins s σ H _ I h) fun _ sa ha => thn ha fun _ sb hb => ?_)
  obtain ⟨it, fp, tn, J, G0, rfl, Ib, Tn, stb, fpb, body⟩ := hb
  refine wpAny_newObj_type (newEnv_comp ?_)
  generalize e0 : sb.heap.objs.size = dk
  have free0 : G0 dk = none := Ib.hok.fresh (Nat.le_of_eq e0)
  obtain ⟨W, ⟨m0, start⟩, turn⟩ := body dk free0
  generalize e1 : ({ sb with heap := sb.heap.push { cls := .type "dict", data := .dict #[] } } : Shared) = sc
  have hsc : sc.heap = sb.heap.push { cls := .type "dict", data := .dict #[] } := e1 ▸ rfl
  have Ic : Inv X pins σ (upd G0 dk (.dT [])) sc := by
    subst e1 e0
    exact Ib.laid (t' := sb.toks) (fun _ _ e => Heap.get?_push_of_some _ e) (Nat.le_refl _) (dt_empty sb.heap Ib.big)
  have below : ∀ b ∈ fp, b < dk := fun b hb => by
    obtain ⟨o, e, _⟩ := Tn.obj _ _ stb b hb
    exact e0 ▸ Heap.lt_size e
  have fpc : ∀ b ∈ fp, FpOk X pins (upd G0 dk (.dT [])) b ∧ b < sc.heap.objs.size := fun b hb => by
    have lt := below b hb
    exact ⟨⟨(upd_ne (Nat.ne_of_lt lt)).trans (fpb b hb).1, (fpb b hb).2⟩, by rw [hsc, Heap.size_push, e0]; exact Nat.lt_succ_of_lt lt⟩
  have stc : tn 0 sc.heap := Tn.keep _ _ _ stb fun b _ o e => by rw [hsc]; exact Heap.get?_push_of_some _ e
  have Id := block_start Ic blk nd fpc
  have qg := pg sc (upd G0 dk (.dT [])) sc.heap.objs.size (cellsFrom (sc.heap.objs.size + 1) scope.names (cloFrom X.env.cells scope.names [])) fp
  have qk := pk sc (upd G0 dk (.dT [])) sc.heap.objs.size (cellsFrom (sc.heap.objs.size + 1) scope.names (cloFrom X.env.cells scope.names [])) fp
  have qv := pv sc (upd G0 dk (.dT [])) sc.heap.objs.size (cellsFrom (sc.heap.objs.size + 1) scope.names (cloFrom X.env.cells scope.names [])) fp
  generalize qce : compEnvC scope (cellsFrom (sc.heap.objs.size + 1) scope.names (cloFrom X.env.cells scope.names [])) sc.heap.objs.size X.env = ce at Id qg qk qv
  have locs : ce.locals = sc.heap.objs.size := qce ▸ rfl
  generalize qG : upd G0 dk (.dT []) = G1 at Ic Id qg qk qv start fpc
  generalize qsd : ({ sc with heap := pushCells (sc.heap.push { cls := .type "dict", data := .dict #[] }) scope.names } : Shared) = sd at Id
  have std : tn 0 sd.heap := Tn.keep _ _ _ stc fun b _ o e => by
    subst qsd
    exact pushCells_keeps _ _ _ _ (Heap.get?_push_of_some _ e)
  let B : Cx := X.blk sc G1 scope ce fp
  have fpB : ∀ {σ' : L2.St} {G' : Hp} {s' : Shared}, Inv B [] σ' G' s' → (∀ b ∈ fp, G' b = none) → ∀ b ∈ fp, FpOk B [] G' b := fun {_ G' _} J' no b hb =>
    ⟨no b hb, (J'.ok.exf b hb).1, J'.ok.exfs b hb, .inl hb, fun x c e => (J'.ok.exf b hb).2 x c e, fun p hp => by
      have : p ∈ ([] : List (Addr × Obj)) ++ [] := hp
      simp at this⟩
  let St' : Nat → Shared → Prop := fun n s' => ∃ i G', Inv B [] (wipe σ (own.map (·.2))) G' s' ∧ tn i s'.heap ∧ (∀ b ∈ fp, G' b = none) ∧ W i n G'
  have loop : codeAny (model X.prog X.w) X.A (.compLoop (.DictComp kx vx [⟨tg, iter, [], 0⟩] scope pos) 0 (.ref it) (.ref dk) ce) (compPost (model X.prog X.w) X.A X.xe none (EP X pins σ Q) (.ref dk) sc.heap.objs.size) sd := by
    refine compLoop_anyD St' (fun n s' hst => ?_) m0 ⟨0, G1, Id, std, fun b hb => (fpc b hb).1.1, start⟩
    obtain ⟨i, G', J', st', no', w'⟩ := hst
    rcases turn i n G' w' with ⟨stop, fin⟩ | ⟨go, Nx, less, step⟩
    · refine thnF (Tn.done B rfl rfl rfl calm i [] s' _ G' (fun _ _ => False) J' (fpB J' no') st' stop) fun r s6 z => ?_
      obtain ⟨rfl, J6⟩ := z
      have back : Inv X pins σ G' s6 := Ic.call' (ch := fp) J6.os J6.base J6.hok J6.bare fun b hb => ⟨(fpc b hb).1.2.2.2.1, (fpc b hb).1.2.1, (fpc b hb).1.2.2.2.2.1, (fpc b hb).1.2.2.2.2.2⟩
      have nloc : G' sc.heap.objs.size = none := locs ▸ (show G' ce.locals = none from J6.free)
      obtain ⟨m, ns, _⟩ := J6.loc
      have ns : s6.heap.Ns sc.heap.objs.size m := locs ▸ (show s6.heap.Ns ce.locals m from ns)
      refine ⟨m, ns, fun h'' sbut => ?_⟩
      obtain ⟨f0, f1, f2, f3, f4, f5⟩ := Ic.fpOk (Nat.le_refl _) nloc
      exact ⟨.ref dk, G', back.turned (t' := s6.toks) (fun b o hb e => (sbut.2 b hb).trans e) f0 f1 f3 f4 f5, rfl, fin⟩
    · refine thnF (Tn.item B rfl rfl rfl calm i [] s' _ G' (fun _ _ => False) J' (fpB J' no') st' go) fun r s6 z => ?_
      obtain ⟨u, rfl, z⟩ := z
      refine thnF z fun _ s7 z7 => ?_
      obtain ⟨x, G7, J7, r7, y7, st7, no7⟩ := z7
      have J7p := J7.pinned (fpB J7 no7) (Tn.obj _ _ st7)
      refine thnF (qg.run _ s7 _ G7 x u _ J7p r7 (step x G7 y7)) fun _ s8 z8 => ?_
      obtain ⟨σ8, G8, J8, w8, q8⟩ := z8
      refine thnF ((pts_nil (X := B)).run _ s8 σ8 G8 (fun ok G9 => ok = true ∧ tk σ8 G9 fun y G4 => tv σ8 G4 fun z G5 => ∃ (es : List (List Key × V)) (ks : List Key) (b : Addr), y = .ref b ∧ G5 dk = some (.dT es) ∧ G5 b = some (.tup (ks.map kV)) ∧ es.length < sizeLine ∧ Nx (upd G5 dk (.dT (putK es ks z)))) J8 ⟨rfl, q8⟩) fun ok s9 z9 => ?_
      obtain ⟨G9, J9, hok, q9⟩ := z9
      subst hok
      show wpAny _ _ (eval kx ce) _ _ _
      refine thnF (qk.run _ s9 σ8 G9 _ J9 q9) fun uk s10 z10 => ?_
      obtain ⟨yk, G10, J10, r10, q10⟩ := z10
      refine thnF (qv.run _ s10 σ8 G10 _ J10 q10) fun uv s11 z11 => ?_
      obtain ⟨yv, G11, J11, r11, es, ks, b, rfl, atd, key, small, nx⟩ := z11
      cases (show uk = Value.ref b from r10)
      refine set_tupKey (X := B) room J11 atd small key r11 fun s12 J12 => ?_
      obtain ⟨m', lt, wn⟩ := less _ nx
      have kept : ∀ c ∈ fp, ∀ o, s7.heap.get? c = some o → s12.heap.get? c = some o ∧ upd G11 dk (.dT (putK es ks yv)) c = none := fun c hc o e =>
        have t := J12.pin (c, o) (List.mem_append_right _ (List.mem_append_right _ (mem_pinsAt hc e)))
        ⟨t.1, t.2.1⟩
      have wl : (wipe σ (own.map (·.2))).length = σ8.length := by rw [← w8, wipe_length]
      refine ⟨m', lt, i + 1, _, (J12.unpinned (pins := [])).weak wl (fun j v e => (wipe_some (w8 ▸ e)).1), Tn.keep _ _ _ st7 fun c hc o e => (kept c hc o e).1, fun c hc => ?_, wn⟩
      obtain ⟨o, e, _⟩ := Tn.obj _ _ st7 c hc
      exact (kept c hc o e).2
  subst qce qsd
  exact codeAny_compStart_dict loop (Tn.self X.A 0 _ _ _ std loop)
end
end Des
end T_DRuleD
section T_DBase
set_option linter.all false
set_option maxRecDepth 100000
set_option maxHeartbeats 2000000
namespace Des
open PySem PySem.Spec PyProof.Rows L2
def top (i : Nat) : Stmt := PySem.Challenge.pw_plainseams_k04_whole_long_desks.main.body.getD i (.Pass ⟨0, 0, 0, 0⟩)
abbrev sis_number : Stmt := top 12
abbrev sare_classes : Stmt := top 13
abbrev sare_two : Stmt := top 14
abbrev sare_parts : Stmt := top 15
abbrev sare_closed : Stmt := top 16
abbrev sTable_init : Stmt := inClass (top 17) 0
abbrev sTable_len : Stmt := inClass (top 17) 3
abbrev sTable_check_sign : Stmt := inClass (top 17) 7
abbrev sTable_bare : Stmt := inClass (top 17) 8
abbrev sTable_joined : Stmt := inClass (top 17) 9
abbrev scheck_table : Stmt := top 18
abbrev scheck_way : Stmt := top 23
abbrev swrong_at : Stmt := top 24
abbrev sis_tame : Stmt := top 25
abbrev sheld_back : Stmt := top 26
abbrev swith_mark : Stmt := top 27
abbrev sread_bare : Stmt := top 28
abbrev sread_sign : Stmt := top 29
abbrev smade_plain : Stmt := top 30
abbrev sDesk_init : Stmt := inClass (top 32) 0
abbrev sDesk_signs : Stmt := inClass (top 32) 1
abbrev sDesk_made : Stmt := inClass (top 32) 2
abbrev sDesk_journal : Stmt := inClass (top 32) 3
abbrev sDesk_len : Stmt := inClass (top 32) 4
abbrev sDesk_edit : Stmt := inClass (top 32) 5
abbrev sDesk_put : Stmt := inClass (top 32) 6
abbrev sDesk_take : Stmt := inClass (top 32) 7
abbrev sDesk_undo : Stmt := inClass (top 32) 8
abbrev sDesk_branch : Stmt := inClass (top 32) 9
abbrev sDesk_trial : Stmt := inClass (top 32) 10
abbrev sDesk_attempt : Stmt := inClass (top 32) 11
abbrev sTrial_init : Stmt := inClass (top 33) 0
abbrev sTrial_enter : Stmt := inClass (top 33) 1
abbrev sTrial_exit : Stmt := inClass (top 33) 2
abbrev sL_cell_at : Stmt := top 35
abbrev sL_draw : Stmt := top 36
abbrev sL_number : Stmt := top 37
abbrev sL_next : Stmt := top 38
abbrev sL_pick : Stmt := top 39
abbrev sL_table : Stmt := top 40
abbrev sL_made : Stmt := top 41
abbrev sL_bare : Stmt := top 42
abbrev sL_pair : Stmt := top 43
abbrev sL_is_tame : Stmt := top 44
abbrev sL_joined : Stmt := top 45
abbrev sL_plain : Stmt := top 46
abbrev sL_is_same : Stmt := top 47
abbrev sL_is_place : Stmt := top 48
abbrev sL_put_right : Stmt := top 49
abbrev sL_take_right : Stmt := top 50
abbrev sL_undone_right : Stmt := top 51
abbrev sL_attempt_right : Stmt := top 52
abbrev sL_spell : Stmt := top 53
abbrev slaw : Stmt := top 54
theorem scis_number : FnScope ["thing", "low", "high"] ["thing", "low", "high"] (defScope sis_number) := ⟨rfl, rfl, rfl, by decide +kernel, rfl, by decide +kernel, by decide +kernel⟩
theorem scare_classes : FnScope ["thing", "one"] ["thing"] (defScope sare_classes) := ⟨rfl, rfl, rfl, by decide +kernel, rfl, by decide +kernel, by decide +kernel⟩
theorem scare_two : FnScope ["classes", "sign", "thing", "one"] ["classes", "sign", "thing"] (defScope sare_two) := ⟨rfl, rfl, rfl, by decide +kernel, rfl, by decide +kernel, by decide +kernel⟩
theorem scare_parts : FnScope ["classes", "thing", "sign", "two"] ["classes", "thing"] (defScope sare_parts) := ⟨rfl, rfl, rfl, by decide +kernel, rfl, by decide +kernel, by decide +kernel⟩
theorem scare_closed : FnScope ["parts", "thing", "one", "other", "sign"] ["parts", "thing"] (defScope sare_closed) := ⟨rfl, rfl, rfl, by decide +kernel, rfl, by decide +kernel, by decide +kernel⟩
theorem scTable_init : FnScope ["self", "classes", "parts", "closed", "sign"] ["self", "classes", "parts", "closed"] (defScope sTable_init) := ⟨rfl, rfl, rfl, by decide +kernel, rfl, by decide +kernel, by decide +kernel⟩
theorem scTable_len : FnScope ["self"] ["self"] (defScope sTable_len) := ⟨rfl, rfl, rfl, by decide +kernel, rfl, by decide +kernel, by decide +kernel⟩
theorem scTable_check_sign : FnScope ["self", "sign"] ["self", "sign"] (defScope sTable_check_sign) := ⟨rfl, rfl, rfl, by decide +kernel, rfl, by decide +kernel, by decide +kernel⟩
theorem scTable_bare : FnScope ["self", "sign", "two"] ["self", "sign"] (defScope sTable_bare) := ⟨rfl, rfl, rfl, by decide +kernel, rfl, by decide +kernel, by decide +kernel⟩
theorem scTable_joined : FnScope ["self", "one", "other", "some", "sign", "two"] ["self", "one", "other"] (defScope sTable_joined) := ⟨rfl, rfl, rfl, by decide +kernel, rfl, by decide +kernel, by decide +kernel⟩
theorem sccheck_table : FnScope ["table"] ["table"] (defScope scheck_table) := ⟨rfl, rfl, rfl, by decide +kernel, rfl, by decide +kernel, by decide +kernel⟩
theorem sccheck_way : FnScope ["table", "way"] ["table", "way"] (defScope scheck_way) := ⟨rfl, rfl, rfl, by decide +kernel, rfl, by decide +kernel, by decide +kernel⟩
theorem scwrong_at : FnScope ["table", "text", "run", "index", "sign", "one"] ["table", "text"] (defScope swrong_at) := ⟨rfl, rfl, rfl, by decide +kernel, rfl, by decide +kernel, by decide +kernel⟩
theorem scis_tame : FnScope ["table", "text"] ["table", "text"] (defScope sis_tame) := ⟨rfl, rfl, rfl, by decide +kernel, rfl, by decide +kernel, by decide +kernel⟩
theorem scheld_back : FnScope ["table", "way", "standing", "base", "marks", "kept", "mark", "late", "is_free"] ["table", "way", "standing"] (defScope sheld_back) := ⟨rfl, rfl, rfl, by decide +kernel, rfl, by decide +kernel, by decide +kernel⟩
theorem scwith_mark : FnScope ["table", "marks", "mark", "at", "one"] ["table", "marks", "mark"] (defScope swith_mark) := ⟨rfl, rfl, rfl, by decide +kernel, rfl, by decide +kernel, by decide +kernel⟩
theorem scread_bare : FnScope ["table", "way", "standing", "sign", "base", "marks", "held_now", "late"] ["table", "way", "standing", "sign"] (defScope sread_bare) := ⟨rfl, rfl, rfl, by decide +kernel, rfl, by decide +kernel, by decide +kernel⟩
theorem scread_sign : FnScope ["table", "way", "standing", "sign", "found", "one", "row"] ["table", "way", "standing", "sign"] (defScope sread_sign) := ⟨rfl, rfl, rfl, by decide +kernel, rfl, by decide +kernel, by decide +kernel⟩
theorem scmade_plain : FnScope ["table", "way", "text", "standing", "found", "sign", "some"] ["table", "way", "text"] (defScope smade_plain) := ⟨rfl, rfl, rfl, by decide +kernel, rfl, by decide +kernel, by decide +kernel⟩
theorem scDesk_init : FnScope ["self", "table", "way"] ["self", "table", "way"] (defScope sDesk_init) := ⟨rfl, rfl, rfl, by decide +kernel, rfl, by decide +kernel, by decide +kernel⟩
theorem scDesk_signs : FnScope ["self"] ["self"] (defScope sDesk_signs) := ⟨rfl, rfl, rfl, by decide +kernel, rfl, by decide +kernel, by decide +kernel⟩
theorem scDesk_made : FnScope ["self"] ["self"] (defScope sDesk_made) := ⟨rfl, rfl, rfl, by decide +kernel, rfl, by decide +kernel, by decide +kernel⟩
theorem scDesk_journal : FnScope ["self", "edit", "text"] ["self"] (defScope sDesk_journal) := ⟨rfl, rfl, rfl, by decide +kernel, rfl, by decide +kernel, by decide +kernel⟩
theorem scDesk_len : FnScope ["self"] ["self"] (defScope sDesk_len) := ⟨rfl, rfl, rfl, by decide +kernel, rfl, by decide +kernel, by decide +kernel⟩
theorem scDesk_edit : FnScope ["self", "late", "edit", "text", "notes", "floor"] ["self", "late", "edit"] (defScope sDesk_edit) := ⟨rfl, rfl, rfl, by decide +kernel, rfl, by decide +kernel, by decide +kernel⟩
theorem scDesk_put : FnScope ["self", "at", "sign", "text"] ["self", "at", "sign"] (defScope sDesk_put) := ⟨rfl, rfl, rfl, by decide +kernel, rfl, by decide +kernel, by decide +kernel⟩
theorem scDesk_take : FnScope ["self", "at", "text"] ["self", "at"] (defScope sDesk_take) := ⟨rfl, rfl, rfl, by decide +kernel, rfl, by decide +kernel, by decide +kernel⟩
theorem scDesk_undo : FnScope ["self", "notes", "floor", "edit", "text"] ["self"] (defScope sDesk_undo) := ⟨rfl, rfl, rfl, by decide +kernel, rfl, by decide +kernel, by decide +kernel⟩
theorem scDesk_branch : FnScope ["self", "found"] ["self"] (defScope sDesk_branch) := ⟨rfl, rfl, rfl, by decide +kernel, rfl, by decide +kernel, by decide +kernel⟩
theorem scDesk_trial : FnScope ["self"] ["self"] (defScope sDesk_trial) := ⟨rfl, rfl, rfl, by decide +kernel, rfl, by decide +kernel, by decide +kernel⟩
theorem scDesk_attempt : FnScope ["self", "work", "desk", "found"] ["self", "work"] (defScope sDesk_attempt) := ⟨rfl, rfl, rfl, by decide +kernel, rfl, by decide +kernel, by decide +kernel⟩
theorem scTrial_init : FnScope ["self", "desk"] ["self", "desk"] (defScope sTrial_init) := ⟨rfl, rfl, rfl, by decide +kernel, rfl, by decide +kernel, by decide +kernel⟩
theorem scTrial_enter : FnScope ["self"] ["self"] (defScope sTrial_enter) := ⟨rfl, rfl, rfl, by decide +kernel, rfl, by decide +kernel, by decide +kernel⟩
theorem scTrial_exit : FnScope ["self", "kind", "error", "trace"] ["self", "kind", "error", "trace"] (defScope sTrial_exit) := ⟨rfl, rfl, rfl, by decide +kernel, rfl, by decide +kernel, by decide +kernel⟩
theorem scL_cell_at : FnScope ["_law_script", "_law_k"] ["_law_script", "_law_k"] (defScope sL_cell_at) := ⟨rfl, rfl, rfl, by decide +kernel, rfl, by decide +kernel, by decide +kernel⟩
theorem scL_draw : FnScope ["_law_cell", "_law_k", "_law_bound", "_law_primes"] ["_law_cell", "_law_k", "_law_bound"] (defScope sL_draw) := ⟨rfl, rfl, rfl, by decide +kernel, rfl, by decide +kernel, by decide +kernel⟩
theorem scL_number : FnScope ["_law_cell", "_law_k", "_law_bound", "_law_power", "_law_times", "_law_rest", "_law_small", "_law_blend"] ["_law_cell", "_law_k", "_law_bound"] (defScope sL_number) := ⟨rfl, rfl, rfl, by decide +kernel, rfl, by decide +kernel, by decide +kernel⟩
theorem scL_next : FnScope ["_law_draw_here", "_law_bound", "_law_at", "_law_cell"] ["_law_draw_here", "_law_bound"] (defScope sL_next) := ⟨rfl, rfl, rfl, by decide +kernel, rfl, by decide +kernel, by decide +kernel⟩
theorem scL_pick : FnScope ["_law_draw_here", "_law_things"] ["_law_draw_here", "_law_things"] (defScope sL_pick) := ⟨rfl, rfl, rfl, by decide +kernel, rfl, by decide +kernel, by decide +kernel⟩
theorem scL_table : FnScope ["_law_draw_here", "_law_most", "_law_many", "_law_classes", "_law_parts", "_law_pairs", "_law_sign", "_law_bases", "_law_two", "_law_shut", "_law_one"] ["_law_draw_here", "_law_most"] (defScope sL_table) := ⟨rfl, rfl, rfl, by decide +kernel, rfl, by decide +kernel, by decide +kernel⟩
theorem scL_made : FnScope ["_law_model"] ["_law_model"] (defScope sL_made) := ⟨rfl, rfl, rfl, by decide +kernel, rfl, by decide +kernel, by decide +kernel⟩
theorem scL_bare : FnScope ["_law_model", "_law_sign", "_law_two"] ["_law_model", "_law_sign"] (defScope sL_bare) := ⟨rfl, rfl, rfl, by decide +kernel, rfl, by decide +kernel, by decide +kernel⟩
theorem scL_pair : FnScope ["_law_model", "_law_one", "_law_other", "_law_some", "_law_sign", "_law_two"] ["_law_model", "_law_one", "_law_other"] (defScope sL_pair) := ⟨rfl, rfl, rfl, by decide +kernel, rfl, by decide +kernel, by decide +kernel⟩
theorem scL_is_tame : FnScope ["_law_model", "_law_text", "_law_run", "_law_sign", "_law_one"] ["_law_model", "_law_text"] (defScope sL_is_tame) := ⟨rfl, rfl, rfl, by decide +kernel, rfl, by decide +kernel, by decide +kernel⟩
theorem scL_joined : FnScope ["_law_model", "_law_signs", "_law_found", "_law_base", "_law_kept", "_law_sign", "_law_late", "_law_is_free", "_law_one"] ["_law_model", "_law_signs"] (defScope sL_joined) := ⟨rfl, rfl, rfl, by decide +kernel, rfl, by decide +kernel, by decide +kernel⟩
theorem scL_plain : FnScope ["_law_model", "_law_text", "_law_signs", "_law_sign", "_law_turn", "_law_at", "_law_one", "_law_other"] ["_law_model", "_law_text"] (defScope sL_plain) := ⟨rfl, rfl, rfl, by decide +kernel, rfl, by decide +kernel, by decide +kernel⟩
theorem scL_is_same : FnScope ["_law_model", "_law_desk", "_law_rows", "_law_text", "_law_row"] ["_law_model", "_law_desk", "_law_rows"] (defScope sL_is_same) := ⟨rfl, rfl, rfl, by decide +kernel, rfl, by decide +kernel, by decide +kernel⟩
theorem scL_is_place : FnScope ["_law_at", "_law_most"] ["_law_at", "_law_most"] (defScope sL_is_place) := ⟨rfl, rfl, rfl, by decide +kernel, rfl, by decide +kernel, by decide +kernel⟩
theorem scL_put_right : FnScope ["_law_draw_here", "_law_model", "_law_desk", "_law_rows", "_law_text", "_law_many", "_law_at", "_law_sign", "_law_due"] ["_law_draw_here", "_law_model", "_law_desk", "_law_rows"] (defScope sL_put_right) := ⟨rfl, rfl, rfl, by decide +kernel, rfl, by decide +kernel, by decide +kernel⟩
theorem scL_take_right : FnScope ["_law_draw_here", "_law_model", "_law_desk", "_law_rows", "_law_text", "_law_at", "_law_due", "_law_found"] ["_law_draw_here", "_law_model", "_law_desk", "_law_rows"] (defScope sL_take_right) := ⟨rfl, rfl, rfl, by decide +kernel, rfl, by decide +kernel, by decide +kernel⟩
theorem scL_undone_right : FnScope ["_law_desk", "_law_rows", "_law_floor"] ["_law_desk", "_law_rows", "_law_floor"] (defScope sL_undone_right) := ⟨rfl, rfl, rfl, by decide +kernel, rfl, by decide +kernel, by decide +kernel⟩
theorem scL_attempt_right : FnScope ["_law_draw_here", "_law_model", "_law_desk", "_law_rows", "_law_depth", "_law_work", "_law_is_fine", "_law_is_left", "_law_kept"] ["_law_draw_here", "_law_model", "_law_desk", "_law_rows", "_law_depth"] (defScope sL_attempt_right) := ⟨rfl, rfl, rfl, by decide +kernel, rfl, by decide +kernel, by decide +kernel⟩
theorem scL_spell : FnScope ["_law_draw_here", "_law_model", "_law_desk", "_law_rows", "_law_floor", "_law_depth", "_law_turn", "_law_sort", "_law_is_fine"] ["_law_draw_here", "_law_model", "_law_desk", "_law_rows", "_law_floor", "_law_depth"] (defScope sL_spell) := ⟨rfl, rfl, rfl, by decide +kernel, rfl, by decide +kernel, by decide +kernel⟩
theorem sclaw : FnScope ["_law_script", "_law_draw_here", "_law_model", "_law_desk", "_law_rows", "_law_turn", "_law_branch", "_law_late"] ["_law_script"] (defScope slaw) := ⟨rfl, rfl, rfl, by decide +kernel, rfl, by decide +kernel, by decide +kernel⟩
/-- the getter of the property f of the class x -/
def propAd (x f : Str) (K : PySem.W.Frag) : Addr := match PySem.W.recIn K (He.ma K (He.ga K x) f) "property" with
  | some (.ref g :: _) => g
  | _ => 0
def kwAd (K : PySem.W.Frag) : Addr := match K.lookup (He.ma K (He.ga K "Table") "__init__") with
  | some ⟨_, _, .func fd, _⟩ => (match fd.kwdefaults with
    | .ref D => (match PySem.W.nsIn K D "closed" with
      | some (some (.ref a)) => a
      | _ => 0)
    | _ => 0)
  | _ => 0
section
variable {K : PySem.W.Frag} {f : Addr} {fd : FuncData}
abbrev Fdis_number (K : PySem.W.Frag) (f : Addr) (fd : FuncData) : Prop := FunD K "is_number" "is_number" (defArgs sis_number) (defBody sis_number) (defScope sis_number) [] [] f fd
theorem bis_number (F : Fdis_number K f fd) : Binds K fd ["thing", "low", "high"] [] := F.bindsN fun _ _ _ _ _ _ us hl => match us, hl with | [_, _, _], _ => rfl
abbrev Fdare_classes (K : PySem.W.Frag) (f : Addr) (fd : FuncData) : Prop := FunD K "are_classes" "are_classes" (defArgs sare_classes) (defBody sare_classes) (defScope sare_classes) [] [] f fd
theorem bare_classes (F : Fdare_classes K f fd) : Binds K fd ["thing"] [] := F.bindsN fun _ _ _ _ _ _ us hl => match us, hl with | [_], _ => rfl
abbrev Fdare_two (K : PySem.W.Frag) (f : Addr) (fd : FuncData) : Prop := FunD K "are_two" "are_two" (defArgs sare_two) (defBody sare_two) (defScope sare_two) [] [] f fd
theorem bare_two (F : Fdare_two K f fd) : Binds K fd ["classes", "sign", "thing"] [] := F.bindsN fun _ _ _ _ _ _ us hl => match us, hl with | [_, _, _], _ => rfl
abbrev Fdare_parts (K : PySem.W.Frag) (f : Addr) (fd : FuncData) : Prop := FunD K "are_parts" "are_parts" (defArgs sare_parts) (defBody sare_parts) (defScope sare_parts) [] [] f fd
theorem bare_parts (F : Fdare_parts K f fd) : Binds K fd ["classes", "thing"] [] := F.bindsN fun _ _ _ _ _ _ us hl => match us, hl with | [_, _], _ => rfl
abbrev Fdare_closed (K : PySem.W.Frag) (f : Addr) (fd : FuncData) : Prop := FunD K "are_closed" "are_closed" (defArgs sare_closed) (defBody sare_closed) (defScope sare_closed) [] [] f fd
theorem bare_closed (F : Fdare_closed K f fd) : Binds K fd ["parts", "thing"] [] := F.bindsN fun _ _ _ _ _ _ us hl => match us, hl with | [_, _], _ => rfl
abbrev FdTable_init (K : PySem.W.Frag) (f : Addr) (fd : FuncData) : Prop := FunD K "__init__" "Table.__init__" (defArgs sTable_init) (defBody sTable_init) (defScope sTable_init) [] [("closed", V.ref (kwAd K))] f fd
abbrev FdTable_len (K : PySem.W.Frag) (f : Addr) (fd : FuncData) : Prop := FunD K "__len__" "Table.__len__" (defArgs sTable_len) (defBody sTable_len) (defScope sTable_len) [] [] f fd
theorem bTable_len (F : FdTable_len K f fd) : Binds K fd ["self"] [] := F.bindsN fun _ _ _ _ _ _ us hl => match us, hl with | [_], _ => rfl
abbrev FdTable_check_sign (K : PySem.W.Frag) (f : Addr) (fd : FuncData) : Prop := FunD K "check_sign" "Table.check_sign" (defArgs sTable_check_sign) (defBody sTable_check_sign) (defScope sTable_check_sign) [] [] f fd
theorem bTable_check_sign (F : FdTable_check_sign K f fd) : Binds K fd ["self", "sign"] [] := F.bindsN fun _ _ _ _ _ _ us hl => match us, hl with | [_, _], _ => rfl
abbrev FdTable_bare (K : PySem.W.Frag) (f : Addr) (fd : FuncData) : Prop := FunD K "bare" "Table.bare" (defArgs sTable_bare) (defBody sTable_bare) (defScope sTable_bare) [] [] f fd
theorem bTable_bare (F : FdTable_bare K f fd) : Binds K fd ["self", "sign"] [] := F.bindsN fun _ _ _ _ _ _ us hl => match us, hl with | [_, _], _ => rfl
abbrev FdTable_joined (K : PySem.W.Frag) (f : Addr) (fd : FuncData) : Prop := FunD K "joined" "Table.joined" (defArgs sTable_joined) (defBody sTable_joined) (defScope sTable_joined) [] [] f fd
theorem bTable_joined (F : FdTable_joined K f fd) : Binds K fd ["self", "one", "other"] [] := F.bindsN fun _ _ _ _ _ _ us hl => match us, hl with | [_, _, _], _ => rfl
abbrev Fdcheck_table (K : PySem.W.Frag) (f : Addr) (fd : FuncData) : Prop := FunD K "check_table" "check_table" (defArgs scheck_table) (defBody scheck_table) (defScope scheck_table) [] [] f fd
theorem bcheck_table (F : Fdcheck_table K f fd) : Binds K fd ["table"] [] := F.bindsN fun _ _ _ _ _ _ us hl => match us, hl with | [_], _ => rfl
abbrev Fdcheck_way (K : PySem.W.Frag) (f : Addr) (fd : FuncData) : Prop := FunD K "check_way" "check_way" (defArgs scheck_way) (defBody scheck_way) (defScope scheck_way) [] [] f fd
theorem bcheck_way (F : Fdcheck_way K f fd) : Binds K fd ["table", "way"] [] := F.bindsN fun _ _ _ _ _ _ us hl => match us, hl with | [_, _], _ => rfl
abbrev Fdwrong_at (K : PySem.W.Frag) (f : Addr) (fd : FuncData) : Prop := FunD K "wrong_at" "wrong_at" (defArgs swrong_at) (defBody swrong_at) (defScope swrong_at) [] [] f fd
theorem bwrong_at (F : Fdwrong_at K f fd) : Binds K fd ["table", "text"] [] := F.bindsN fun _ _ _ _ _ _ us hl => match us, hl with | [_, _], _ => rfl
abbrev Fdis_tame (K : PySem.W.Frag) (f : Addr) (fd : FuncData) : Prop := FunD K "is_tame" "is_tame" (defArgs sis_tame) (defBody sis_tame) (defScope sis_tame) [] [] f fd
theorem bis_tame (F : Fdis_tame K f fd) : Binds K fd ["table", "text"] [] := F.bindsN fun _ _ _ _ _ _ us hl => match us, hl with | [_, _], _ => rfl
abbrev Fdheld_back (K : PySem.W.Frag) (f : Addr) (fd : FuncData) : Prop := FunD K "held_back" "held_back" (defArgs sheld_back) (defBody sheld_back) (defScope sheld_back) [] [] f fd
theorem bheld_back (F : Fdheld_back K f fd) : Binds K fd ["table", "way", "standing"] [] := F.bindsN fun _ _ _ _ _ _ us hl => match us, hl with | [_, _, _], _ => rfl
abbrev Fdwith_mark (K : PySem.W.Frag) (f : Addr) (fd : FuncData) : Prop := FunD K "with_mark" "with_mark" (defArgs swith_mark) (defBody swith_mark) (defScope swith_mark) [] [] f fd
theorem bwith_mark (F : Fdwith_mark K f fd) : Binds K fd ["table", "marks", "mark"] [] := F.bindsN fun _ _ _ _ _ _ us hl => match us, hl with | [_, _, _], _ => rfl
abbrev Fdread_bare (K : PySem.W.Frag) (f : Addr) (fd : FuncData) : Prop := FunD K "read_bare" "read_bare" (defArgs sread_bare) (defBody sread_bare) (defScope sread_bare) [] [] f fd
theorem bread_bare (F : Fdread_bare K f fd) : Binds K fd ["table", "way", "standing", "sign"] [] := F.bindsN fun _ _ _ _ _ _ us hl => match us, hl with | [_, _, _, _], _ => rfl
abbrev Fdread_sign (K : PySem.W.Frag) (f : Addr) (fd : FuncData) : Prop := FunD K "read_sign" "read_sign" (defArgs sread_sign) (defBody sread_sign) (defScope sread_sign) [] [] f fd
theorem bread_sign (F : Fdread_sign K f fd) : Binds K fd ["table", "way", "standing", "sign"] [] := F.bindsN fun _ _ _ _ _ _ us hl => match us, hl with | [_, _, _, _], _ => rfl
abbrev Fdmade_plain (K : PySem.W.Frag) (f : Addr) (fd : FuncData) : Prop := FunD K "made_plain" "made_plain" (defArgs smade_plain) (defBody smade_plain) (defScope smade_plain) [] [] f fd
theorem bmade_plain (F : Fdmade_plain K f fd) : Binds K fd ["table", "way", "text"] [] := F.bindsN fun _ _ _ _ _ _ us hl => match us, hl with | [_, _, _], _ => rfl
abbrev FdDesk_init (K : PySem.W.Frag) (f : Addr) (fd : FuncData) : Prop := FunD K "__init__" "Desk.__init__" (defArgs sDesk_init) (defBody sDesk_init) (defScope sDesk_init) [] [] f fd
theorem bDesk_init (F : FdDesk_init K f fd) : Binds K fd ["self", "table", "way"] [] := F.bindsN fun _ _ _ _ _ _ us hl => match us, hl with | [_, _, _], _ => rfl
abbrev FdDesk_signs (K : PySem.W.Frag) (f : Addr) (fd : FuncData) : Prop := FunD K "signs" "Desk.signs" (defArgs sDesk_signs) (defBody sDesk_signs) (defScope sDesk_signs) [] [] f fd
theorem bDesk_signs (F : FdDesk_signs K f fd) : Binds K fd ["self"] [] := F.bindsN fun _ _ _ _ _ _ us hl => match us, hl with | [_], _ => rfl
abbrev FdDesk_made (K : PySem.W.Frag) (f : Addr) (fd : FuncData) : Prop := FunD K "made" "Desk.made" (defArgs sDesk_made) (defBody sDesk_made) (defScope sDesk_made) [] [] f fd
theorem bDesk_made (F : FdDesk_made K f fd) : Binds K fd ["self"] [] := F.bindsN fun _ _ _ _ _ _ us hl => match us, hl with | [_], _ => rfl
abbrev FdDesk_journal (K : PySem.W.Frag) (f : Addr) (fd : FuncData) : Prop := FunD K "journal" "Desk.journal" (defArgs sDesk_journal) (defBody sDesk_journal) (defScope sDesk_journal) [] [] f fd
theorem bDesk_journal (F : FdDesk_journal K f fd) : Binds K fd ["self"] [] := F.bindsN fun _ _ _ _ _ _ us hl => match us, hl with | [_], _ => rfl
abbrev FdDesk_len (K : PySem.W.Frag) (f : Addr) (fd : FuncData) : Prop := FunD K "__len__" "Desk.__len__" (defArgs sDesk_len) (defBody sDesk_len) (defScope sDesk_len) [] [] f fd
theorem bDesk_len (F : FdDesk_len K f fd) : Binds K fd ["self"] [] := F.bindsN fun _ _ _ _ _ _ us hl => match us, hl with | [_], _ => rfl
abbrev FdDesk_edit (K : PySem.W.Frag) (f : Addr) (fd : FuncData) : Prop := FunD K "edit" "Desk.edit" (defArgs sDesk_edit) (defBody sDesk_edit) (defScope sDesk_edit) [] [] f fd
theorem bDesk_edit (F : FdDesk_edit K f fd) : Binds K fd ["self", "late", "edit"] [] := F.bindsN fun _ _ _ _ _ _ us hl => match us, hl with | [_, _, _], _ => rfl
abbrev FdDesk_put (K : PySem.W.Frag) (f : Addr) (fd : FuncData) : Prop := FunD K "put" "Desk.put" (defArgs sDesk_put) (defBody sDesk_put) (defScope sDesk_put) [] [] f fd
theorem bDesk_put (F : FdDesk_put K f fd) : Binds K fd ["self", "at", "sign"] [] := F.bindsN fun _ _ _ _ _ _ us hl => match us, hl with | [_, _, _], _ => rfl
abbrev FdDesk_take (K : PySem.W.Frag) (f : Addr) (fd : FuncData) : Prop := FunD K "take" "Desk.take" (defArgs sDesk_take) (defBody sDesk_take) (defScope sDesk_take) [] [] f fd
theorem bDesk_take (F : FdDesk_take K f fd) : Binds K fd ["self", "at"] [] := F.bindsN fun _ _ _ _ _ _ us hl => match us, hl with | [_, _], _ => rfl
abbrev FdDesk_undo (K : PySem.W.Frag) (f : Addr) (fd : FuncData) : Prop := FunD K "undo" "Desk.undo" (defArgs sDesk_undo) (defBody sDesk_undo) (defScope sDesk_undo) [] [] f fd
theorem bDesk_undo (F : FdDesk_undo K f fd) : Binds K fd ["self"] [] := F.bindsN fun _ _ _ _ _ _ us hl => match us, hl with | [_], _ => rfl
abbrev FdDesk_branch (K : PySem.W.Frag) (f : Addr) (fd : FuncData) : Prop := FunD K "branch" "Desk.branch" (defArgs sDesk_branch) (defBody sDesk_branch) (defScope sDesk_branch) [] [] f fd
theorem bDesk_branch (F : FdDesk_branch K f fd) : Binds K fd ["self"] [] := F.bindsN fun _ _ _ _ _ _ us hl => match us, hl with | [_], _ => rfl
abbrev FdDesk_trial (K : PySem.W.Frag) (f : Addr) (fd : FuncData) : Prop := FunD K "trial" "Desk.trial" (defArgs sDesk_trial) (defBody sDesk_trial) (defScope sDesk_trial) [] [] f fd
theorem bDesk_trial (F : FdDesk_trial K f fd) : Binds K fd ["self"] [] := F.bindsN fun _ _ _ _ _ _ us hl => match us, hl with | [_], _ => rfl
abbrev FdDesk_attempt (K : PySem.W.Frag) (f : Addr) (fd : FuncData) : Prop := FunD K "attempt" "Desk.attempt" (defArgs sDesk_attempt) (defBody sDesk_attempt) (defScope sDesk_attempt) [] [] f fd
theorem bDesk_attempt (F : FdDesk_attempt K f fd) : Binds K fd ["self", "work"] [] := F.bindsN fun _ _ _ _ _ _ us hl => match us, hl with | [_, _], _ => rfl
abbrev FdTrial_init (K : PySem.W.Frag) (f : Addr) (fd : FuncData) : Prop := FunD K "__init__" "Trial.__init__" (defArgs sTrial_init) (defBody sTrial_init) (defScope sTrial_init) [] [] f fd
theorem bTrial_init (F : FdTrial_init K f fd) : Binds K fd ["self", "desk"] [] := F.bindsN fun _ _ _ _ _ _ us hl => match us, hl with | [_, _], _ => rfl
abbrev FdTrial_enter (K : PySem.W.Frag) (f : Addr) (fd : FuncData) : Prop := FunD K "__enter__" "Trial.__enter__" (defArgs sTrial_enter) (defBody sTrial_enter) (defScope sTrial_enter) [] [] f fd
theorem bTrial_enter (F : FdTrial_enter K f fd) : Binds K fd ["self"] [] := F.bindsN fun _ _ _ _ _ _ us hl => match us, hl with | [_], _ => rfl
abbrev FdTrial_exit (K : PySem.W.Frag) (f : Addr) (fd : FuncData) : Prop := FunD K "__exit__" "Trial.__exit__" (defArgs sTrial_exit) (defBody sTrial_exit) (defScope sTrial_exit) [] [] f fd
theorem bTrial_exit (F : FdTrial_exit K f fd) : Binds K fd ["self", "kind", "error", "trace"] [] := F.bindsN fun _ _ _ _ _ _ us hl => match us, hl with | [_, _, _, _], _ => rfl
abbrev FdL_cell_at (K : PySem.W.Frag) (f : Addr) (fd : FuncData) : Prop := FunD K "_law_cell_at" "_law_cell_at" (defArgs sL_cell_at) (defBody sL_cell_at) (defScope sL_cell_at) [] [] f fd
theorem bL_cell_at (F : FdL_cell_at K f fd) : Binds K fd ["_law_script", "_law_k"] [] := F.bindsN fun _ _ _ _ _ _ us hl => match us, hl with | [_, _], _ => rfl
abbrev FdL_draw (K : PySem.W.Frag) (f : Addr) (fd : FuncData) : Prop := FunD K "_law_draw" "_law_draw" (defArgs sL_draw) (defBody sL_draw) (defScope sL_draw) [] [] f fd
theorem bL_draw (F : FdL_draw K f fd) : Binds K fd ["_law_cell", "_law_k", "_law_bound"] [] := F.bindsN fun _ _ _ _ _ _ us hl => match us, hl with | [_, _, _], _ => rfl
abbrev FdL_number (K : PySem.W.Frag) (f : Addr) (fd : FuncData) : Prop := FunD K "_law_number" "_law_number" (defArgs sL_number) (defBody sL_number) (defScope sL_number) [] [] f fd
theorem bL_number (F : FdL_number K f fd) : Binds K fd ["_law_cell", "_law_k", "_law_bound"] [] := F.bindsN fun _ _ _ _ _ _ us hl => match us, hl with | [_, _, _], _ => rfl
abbrev FdL_next (K : PySem.W.Frag) (f : Addr) (fd : FuncData) : Prop := FunD K "_law_next" "_law_next" (defArgs sL_next) (defBody sL_next) (defScope sL_next) [] [] f fd
theorem bL_next (F : FdL_next K f fd) : Binds K fd ["_law_draw_here", "_law_bound"] [] := F.bindsN fun _ _ _ _ _ _ us hl => match us, hl with | [_, _], _ => rfl
abbrev FdL_pick (K : PySem.W.Frag) (f : Addr) (fd : FuncData) : Prop := FunD K "_law_pick" "_law_pick" (defArgs sL_pick) (defBody sL_pick) (defScope sL_pick) [] [] f fd
theorem bL_pick (F : FdL_pick K f fd) : Binds K fd ["_law_draw_here", "_law_things"] [] := F.bindsN fun _ _ _ _ _ _ us hl => match us, hl with | [_, _], _ => rfl
abbrev FdL_table (K : PySem.W.Frag) (f : Addr) (fd : FuncData) : Prop := FunD K "_law_table" "_law_table" (defArgs sL_table) (defBody sL_table) (defScope sL_table) [] [] f fd
theorem bL_table (F : FdL_table K f fd) : Binds K fd ["_law_draw_here", "_law_most"] [] := F.bindsN fun _ _ _ _ _ _ us hl => match us, hl with | [_, _], _ => rfl
abbrev FdL_made (K : PySem.W.Frag) (f : Addr) (fd : FuncData) : Prop := FunD K "_law_made" "_law_made" (defArgs sL_made) (defBody sL_made) (defScope sL_made) [] [] f fd
theorem bL_made (F : FdL_made K f fd) : Binds K fd ["_law_model"] [] := F.bindsN fun _ _ _ _ _ _ us hl => match us, hl with | [_], _ => rfl
abbrev FdL_bare (K : PySem.W.Frag) (f : Addr) (fd : FuncData) : Prop := FunD K "_law_bare" "_law_bare" (defArgs sL_bare) (defBody sL_bare) (defScope sL_bare) [] [] f fd
theorem bL_bare (F : FdL_bare K f fd) : Binds K fd ["_law_model", "_law_sign"] [] := F.bindsN fun _ _ _ _ _ _ us hl => match us, hl with | [_, _], _ => rfl
abbrev FdL_pair (K : PySem.W.Frag) (f : Addr) (fd : FuncData) : Prop := FunD K "_law_pair" "_law_pair" (defArgs sL_pair) (defBody sL_pair) (defScope sL_pair) [] [] f fd
theorem bL_pair (F : FdL_pair K f fd) : Binds K fd ["_law_model", "_law_one", "_law_other"] [] := F.bindsN fun _ _ _ _ _ _ us hl => match us, hl with | [_, _, _], _ => rfl
abbrev FdL_is_tame (K : PySem.W.Frag) (f : Addr) (fd : FuncData) : Prop := FunD K "_law_is_tame" "_law_is_tame" (defArgs sL_is_tame) (defBody sL_is_tame) (defScope sL_is_tame) [] [] f fd
theorem bL_is_tame (F : FdL_is_tame K f fd) : Binds K fd ["_law_model", "_law_text"] [] := F.bindsN fun _ _ _ _ _ _ us hl => match us, hl with | [_, _], _ => rfl
abbrev FdL_joined (K : PySem.W.Frag) (f : Addr) (fd : FuncData) : Prop := FunD K "_law_joined" "_law_joined" (defArgs sL_joined) (defBody sL_joined) (defScope sL_joined) [] [] f fd
theorem bL_joined (F : FdL_joined K f fd) : Binds K fd ["_law_model", "_law_signs"] [] := F.bindsN fun _ _ _ _ _ _ us hl => match us, hl with | [_, _], _ => rfl
abbrev FdL_plain (K : PySem.W.Frag) (f : Addr) (fd : FuncData) : Prop := FunD K "_law_plain" "_law_plain" (defArgs sL_plain) (defBody sL_plain) (defScope sL_plain) [] [] f fd
theorem bL_plain (F : FdL_plain K f fd) : Binds K fd ["_law_model", "_law_text"] [] := F.bindsN fun _ _ _ _ _ _ us hl => match us, hl with | [_, _], _ => rfl
abbrev FdL_is_same (K : PySem.W.Frag) (f : Addr) (fd : FuncData) : Prop := FunD K "_law_is_same" "_law_is_same" (defArgs sL_is_same) (defBody sL_is_same) (defScope sL_is_same) [] [] f fd
theorem bL_is_same (F : FdL_is_same K f fd) : Binds K fd ["_law_model", "_law_desk", "_law_rows"] [] := F.bindsN fun _ _ _ _ _ _ us hl => match us, hl with | [_, _, _], _ => rfl
abbrev FdL_is_place (K : PySem.W.Frag) (f : Addr) (fd : FuncData) : Prop := FunD K "_law_is_place" "_law_is_place" (defArgs sL_is_place) (defBody sL_is_place) (defScope sL_is_place) [] [] f fd
theorem bL_is_place (F : FdL_is_place K f fd) : Binds K fd ["_law_at", "_law_most"] [] := F.bindsN fun _ _ _ _ _ _ us hl => match us, hl with | [_, _], _ => rfl
abbrev FdL_put_right (K : PySem.W.Frag) (f : Addr) (fd : FuncData) : Prop := FunD K "_law_put_right" "_law_put_right" (defArgs sL_put_right) (defBody sL_put_right) (defScope sL_put_right) [] [] f fd
theorem bL_put_right (F : FdL_put_right K f fd) : Binds K fd ["_law_draw_here", "_law_model", "_law_desk", "_law_rows"] [] := F.bindsN fun _ _ _ _ _ _ us hl => match us, hl with | [_, _, _, _], _ => rfl
abbrev FdL_take_right (K : PySem.W.Frag) (f : Addr) (fd : FuncData) : Prop := FunD K "_law_take_right" "_law_take_right" (defArgs sL_take_right) (defBody sL_take_right) (defScope sL_take_right) [] [] f fd
theorem bL_take_right (F : FdL_take_right K f fd) : Binds K fd ["_law_draw_here", "_law_model", "_law_desk", "_law_rows"] [] := F.bindsN fun _ _ _ _ _ _ us hl => match us, hl with | [_, _, _, _], _ => rfl
abbrev FdL_undone_right (K : PySem.W.Frag) (f : Addr) (fd : FuncData) : Prop := FunD K "_law_undone_right" "_law_undone_right" (defArgs sL_undone_right) (defBody sL_undone_right) (defScope sL_undone_right) [] [] f fd
theorem bL_undone_right (F : FdL_undone_right K f fd) : Binds K fd ["_law_desk", "_law_rows", "_law_floor"] [] := F.bindsN fun _ _ _ _ _ _ us hl => match us, hl with | [_, _, _], _ => rfl
abbrev FdL_attempt_right (K : PySem.W.Frag) (f : Addr) (fd : FuncData) : Prop := FunD K "_law_attempt_right" "_law_attempt_right" (defArgs sL_attempt_right) (defBody sL_attempt_right) (defScope sL_attempt_right) [] [] f fd
theorem bL_attempt_right (F : FdL_attempt_right K f fd) : Binds K fd ["_law_draw_here", "_law_model", "_law_desk", "_law_rows", "_law_depth"] [] := F.bindsN fun _ _ _ _ _ _ us hl => match us, hl with | [_, _, _, _, _], _ => rfl
abbrev FdL_spell (K : PySem.W.Frag) (f : Addr) (fd : FuncData) : Prop := FunD K "_law_spell" "_law_spell" (defArgs sL_spell) (defBody sL_spell) (defScope sL_spell) [] [] f fd
theorem bL_spell (F : FdL_spell K f fd) : Binds K fd ["_law_draw_here", "_law_model", "_law_desk", "_law_rows", "_law_floor", "_law_depth"] [] := F.bindsN fun _ _ _ _ _ _ us hl => match us, hl with | [_, _, _, _, _, _], _ => rfl
abbrev Fdlaw (K : PySem.W.Frag) (f : Addr) (fd : FuncData) : Prop := FunD K "law" "law" (defArgs slaw) (defBody slaw) (defScope slaw) [] [] f fd
theorem blaw (F : Fdlaw K f fd) : Binds K fd ["_law_script"] [] := F.bindsN fun _ _ _ _ _ _ us hl => match us, hl with | [_], _ => rfl
end
abbrev ExcF (K : PySem.W.Frag) (x : Str) : Prop := PySem.W.excIn K (He.ga K x) He.veBase "ValueError.__new__" = true ∧ PySem.W.keepIn K (.ref (He.ga K x)) = true ∧ PySem.W.subIn K (.ref (He.ga K x)) (.type "BaseException") = some true ∧ PySem.W.typeIn K (.ref (He.ga K x)) = some (.type "type")
/-- what the top has written: where each def stands, what the classes have -/
structure Tx (K : PySem.W.Frag) (mg : Str → Option Value) : Prop where
  g_is_number : mg "is_number" = some (.ref (He.ga K "is_number"))
  g_are_classes : mg "are_classes" = some (.ref (He.ga K "are_classes"))
  g_are_two : mg "are_two" = some (.ref (He.ga K "are_two"))
  g_are_parts : mg "are_parts" = some (.ref (He.ga K "are_parts"))
  g_are_closed : mg "are_closed" = some (.ref (He.ga K "are_closed"))
  g_check_table : mg "check_table" = some (.ref (He.ga K "check_table"))
  g_check_way : mg "check_way" = some (.ref (He.ga K "check_way"))
  g_wrong_at : mg "wrong_at" = some (.ref (He.ga K "wrong_at"))
  g_is_tame : mg "is_tame" = some (.ref (He.ga K "is_tame"))
  g_held_back : mg "held_back" = some (.ref (He.ga K "held_back"))
  g_with_mark : mg "with_mark" = some (.ref (He.ga K "with_mark"))
  g_read_bare : mg "read_bare" = some (.ref (He.ga K "read_bare"))
  g_read_sign : mg "read_sign" = some (.ref (He.ga K "read_sign"))
  g_made_plain : mg "made_plain" = some (.ref (He.ga K "made_plain"))
  g__law_cell_at : mg "_law_cell_at" = some (.ref (He.ga K "_law_cell_at"))
  g__law_draw : mg "_law_draw" = some (.ref (He.ga K "_law_draw"))
  g__law_number : mg "_law_number" = some (.ref (He.ga K "_law_number"))
  g__law_next : mg "_law_next" = some (.ref (He.ga K "_law_next"))
  g__law_pick : mg "_law_pick" = some (.ref (He.ga K "_law_pick"))
  g__law_table : mg "_law_table" = some (.ref (He.ga K "_law_table"))
  g__law_made : mg "_law_made" = some (.ref (He.ga K "_law_made"))
  g__law_bare : mg "_law_bare" = some (.ref (He.ga K "_law_bare"))
  g__law_pair : mg "_law_pair" = some (.ref (He.ga K "_law_pair"))
  g__law_is_tame : mg "_law_is_tame" = some (.ref (He.ga K "_law_is_tame"))
  g__law_joined : mg "_law_joined" = some (.ref (He.ga K "_law_joined"))
  g__law_plain : mg "_law_plain" = some (.ref (He.ga K "_law_plain"))
  g__law_is_same : mg "_law_is_same" = some (.ref (He.ga K "_law_is_same"))
  g__law_is_place : mg "_law_is_place" = some (.ref (He.ga K "_law_is_place"))
  g__law_put_right : mg "_law_put_right" = some (.ref (He.ga K "_law_put_right"))
  g__law_take_right : mg "_law_take_right" = some (.ref (He.ga K "_law_take_right"))
  g__law_undone_right : mg "_law_undone_right" = some (.ref (He.ga K "_law_undone_right"))
  g__law_attempt_right : mg "_law_attempt_right" = some (.ref (He.ga K "_law_attempt_right"))
  g__law_spell : mg "_law_spell" = some (.ref (He.ga K "_law_spell"))
  g_law : mg "law" = some (.ref (He.ga K "law"))
  g_Table : mg "Table" = some (.ref (He.ga K "Table"))
  g_Desk : mg "Desk" = some (.ref (He.ga K "Desk"))
  g_Trial : mg "Trial" = some (.ref (He.ga K "Trial"))
  g_BadSign : mg "BadSign" = some (.ref (He.ga K "BadSign"))
  g_BadPlace : mg "BadPlace" = some (.ref (He.ga K "BadPlace"))
  g_BadEdit : mg "BadEdit" = some (.ref (He.ga K "BadEdit"))
  g_NothingDone : mg "NothingDone" = some (.ref (He.ga K "NothingDone"))
  g_FIRST : mg "FIRST" = some (.ref (He.ga K "FIRST"))
  g_WAYS : mg "WAYS" = some (.ref (He.ga K "WAYS"))
  n_len : mg "len" = none
  n_isinstance : mg "isinstance" = none
  n_int : mg "int" = none
  n_bool : mg "bool" = none
  n_tuple : mg "tuple" = none
  n_dict : mg "dict" = none
  n_all : mg "all" = none
  n_sorted : mg "sorted" = none
  n_zip : mg "zip" = none
  n_enumerate : mg "enumerate" = none
  n_list : mg "list" = none
  n_range : mg "range" = none
  n_str : mg "str" = none
  n_KeyError : mg "KeyError" = none
  cl_Table : Cls K (He.ga K "Table")
  mk_Table : Mk K (He.ga K "Table") (He.ma K (He.ga K "Table") "__init__")
  cl_Desk : Cls K (He.ga K "Desk")
  mk_Desk : Mk K (He.ga K "Desk") (He.ma K (He.ga K "Desk") "__init__")
  cl_Trial : Cls K (He.ga K "Trial")
  mk_Trial : Mk K (He.ga K "Trial") (He.ma K (He.ga K "Trial") "__init__")
  na_Table_classes : NoAttr K (He.ga K "Table") "classes"
  na_Table_rows : NoAttr K (He.ga K "Table") "rows"
  na_Table_closed : NoAttr K (He.ga K "Table") "closed"
  na_Desk_base : NoAttr K (He.ga K "Desk") "base"
  na_Desk_kept : NoAttr K (He.ga K "Desk") "kept"
  na_Trial_desk : NoAttr K (He.ga K "Trial") "desk"
  na_Trial_before : NoAttr K (He.ga K "Trial") "before"
  m_Table_check_sign : Meth K (He.ga K "Table") "check_sign" (He.ma K (He.ga K "Table") "check_sign")
  m_Table_bare : Meth K (He.ga K "Table") "bare" (He.ma K (He.ga K "Table") "bare")
  m_Table_joined : Meth K (He.ga K "Table") "joined" (He.ma K (He.ga K "Table") "joined")
  m_Table_len : Meth K (He.ga K "Table") "__len__" (He.ma K (He.ga K "Table") "__len__")
  m_Desk_len : Meth K (He.ga K "Desk") "__len__" (He.ma K (He.ga K "Desk") "__len__")
  m_Desk_edit : Meth K (He.ga K "Desk") "edit" (He.ma K (He.ga K "Desk") "edit")
  m_Desk_put : Meth K (He.ga K "Desk") "put" (He.ma K (He.ga K "Desk") "put")
  m_Desk_take : Meth K (He.ga K "Desk") "take" (He.ma K (He.ga K "Desk") "take")
  m_Desk_undo : Meth K (He.ga K "Desk") "undo" (He.ma K (He.ga K "Desk") "undo")
  m_Desk_branch : Meth K (He.ga K "Desk") "branch" (He.ma K (He.ga K "Desk") "branch")
  m_Desk_trial : Meth K (He.ga K "Desk") "trial" (He.ma K (He.ga K "Desk") "trial")
  m_Desk_attempt : Meth K (He.ga K "Desk") "attempt" (He.ma K (He.ga K "Desk") "attempt")
  m_Trial_enter : Meth K (He.ga K "Trial") "__enter__" (He.ma K (He.ga K "Trial") "__enter__")
  m_Trial_exit : Meth K (He.ga K "Trial") "__exit__" (He.ma K (He.ga K "Trial") "__exit__")
  x_BadSign : ExcF K "BadSign"
  x_BadPlace : ExcF K "BadPlace"
  x_BadEdit : ExcF K "BadEdit"
  x_NothingDone : ExcF K "NothingDone"
  e_BadSign_BadSign : PySem.W.exmOne K (.ref (He.ga K "BadSign")) (.ref (He.ga K "BadSign")) = some true
  e_BadSign_BadPlace : PySem.W.exmOne K (.ref (He.ga K "BadSign")) (.ref (He.ga K "BadPlace")) = some false
  e_BadPlace_BadPlace : PySem.W.exmOne K (.ref (He.ga K "BadPlace")) (.ref (He.ga K "BadPlace")) = some true
  e_BadEdit_BadSign : PySem.W.exmOne K (.ref (He.ga K "BadEdit")) (.ref (He.ga K "BadSign")) = some false
  e_BadEdit_BadPlace : PySem.W.exmOne K (.ref (He.ga K "BadEdit")) (.ref (He.ga K "BadPlace")) = some false
  e_BadEdit_BadEdit : PySem.W.exmOne K (.ref (He.ga K "BadEdit")) (.ref (He.ga K "BadEdit")) = some true
  e_NothingDone_NothingDone : PySem.W.exmOne K (.ref (He.ga K "NothingDone")) (.ref (He.ga K "NothingDone")) = some true
  i_MOST_SIGNS : ∃ t, mg "MOST_SIGNS" = some (.int 6 t)
  i_MOST_CLASS : ∃ t, mg "MOST_CLASS" = some (.int 2 t)
  i_MOST_MARKS : ∃ t, mg "MOST_MARKS" = some (.int 2 t)
  F_is_number : ∃ fd, Fdis_number K (He.ga K "is_number") fd
  F_are_classes : ∃ fd, Fdare_classes K (He.ga K "are_classes") fd
  F_are_two : ∃ fd, Fdare_two K (He.ga K "are_two") fd
  F_are_parts : ∃ fd, Fdare_parts K (He.ga K "are_parts") fd
  F_are_closed : ∃ fd, Fdare_closed K (He.ga K "are_closed") fd
  F_Table_init : ∃ fd, FdTable_init K (He.ma K (He.ga K "Table") "__init__") fd
  F_Table_len : ∃ fd, FdTable_len K (He.ma K (He.ga K "Table") "__len__") fd
  F_Table_check_sign : ∃ fd, FdTable_check_sign K (He.ma K (He.ga K "Table") "check_sign") fd
  F_Table_bare : ∃ fd, FdTable_bare K (He.ma K (He.ga K "Table") "bare") fd
  F_Table_joined : ∃ fd, FdTable_joined K (He.ma K (He.ga K "Table") "joined") fd
  F_check_table : ∃ fd, Fdcheck_table K (He.ga K "check_table") fd
  F_check_way : ∃ fd, Fdcheck_way K (He.ga K "check_way") fd
  F_wrong_at : ∃ fd, Fdwrong_at K (He.ga K "wrong_at") fd
  F_is_tame : ∃ fd, Fdis_tame K (He.ga K "is_tame") fd
  F_held_back : ∃ fd, Fdheld_back K (He.ga K "held_back") fd
  F_with_mark : ∃ fd, Fdwith_mark K (He.ga K "with_mark") fd
  F_read_bare : ∃ fd, Fdread_bare K (He.ga K "read_bare") fd
  F_read_sign : ∃ fd, Fdread_sign K (He.ga K "read_sign") fd
  F_made_plain : ∃ fd, Fdmade_plain K (He.ga K "made_plain") fd
  F_Desk_init : ∃ fd, FdDesk_init K (He.ma K (He.ga K "Desk") "__init__") fd
  F_Desk_signs : ∃ fd, FdDesk_signs K (propAd "Desk" "signs" K) fd
  F_Desk_made : ∃ fd, FdDesk_made K (propAd "Desk" "made" K) fd
  F_Desk_journal : ∃ fd, FdDesk_journal K (propAd "Desk" "journal" K) fd
  F_Desk_len : ∃ fd, FdDesk_len K (He.ma K (He.ga K "Desk") "__len__") fd
  F_Desk_edit : ∃ fd, FdDesk_edit K (He.ma K (He.ga K "Desk") "edit") fd
  F_Desk_put : ∃ fd, FdDesk_put K (He.ma K (He.ga K "Desk") "put") fd
  F_Desk_take : ∃ fd, FdDesk_take K (He.ma K (He.ga K "Desk") "take") fd
  F_Desk_undo : ∃ fd, FdDesk_undo K (He.ma K (He.ga K "Desk") "undo") fd
  F_Desk_branch : ∃ fd, FdDesk_branch K (He.ma K (He.ga K "Desk") "branch") fd
  F_Desk_trial : ∃ fd, FdDesk_trial K (He.ma K (He.ga K "Desk") "trial") fd
  F_Desk_attempt : ∃ fd, FdDesk_attempt K (He.ma K (He.ga K "Desk") "attempt") fd
  F_Trial_init : ∃ fd, FdTrial_init K (He.ma K (He.ga K "Trial") "__init__") fd
  F_Trial_enter : ∃ fd, FdTrial_enter K (He.ma K (He.ga K "Trial") "__enter__") fd
  F_Trial_exit : ∃ fd, FdTrial_exit K (He.ma K (He.ga K "Trial") "__exit__") fd
  F_L_cell_at : ∃ fd, FdL_cell_at K (He.ga K "_law_cell_at") fd
  F_L_draw : ∃ fd, FdL_draw K (He.ga K "_law_draw") fd
  F_L_number : ∃ fd, FdL_number K (He.ga K "_law_number") fd
  F_L_next : ∃ fd, FdL_next K (He.ga K "_law_next") fd
  F_L_pick : ∃ fd, FdL_pick K (He.ga K "_law_pick") fd
  F_L_table : ∃ fd, FdL_table K (He.ga K "_law_table") fd
  F_L_made : ∃ fd, FdL_made K (He.ga K "_law_made") fd
  F_L_bare : ∃ fd, FdL_bare K (He.ga K "_law_bare") fd
  F_L_pair : ∃ fd, FdL_pair K (He.ga K "_law_pair") fd
  F_L_is_tame : ∃ fd, FdL_is_tame K (He.ga K "_law_is_tame") fd
  F_L_joined : ∃ fd, FdL_joined K (He.ga K "_law_joined") fd
  F_L_plain : ∃ fd, FdL_plain K (He.ga K "_law_plain") fd
  F_L_is_same : ∃ fd, FdL_is_same K (He.ga K "_law_is_same") fd
  F_L_is_place : ∃ fd, FdL_is_place K (He.ga K "_law_is_place") fd
  F_L_put_right : ∃ fd, FdL_put_right K (He.ga K "_law_put_right") fd
  F_L_take_right : ∃ fd, FdL_take_right K (He.ga K "_law_take_right") fd
  F_L_undone_right : ∃ fd, FdL_undone_right K (He.ga K "_law_undone_right") fd
  F_L_attempt_right : ∃ fd, FdL_attempt_right K (He.ga K "_law_attempt_right") fd
  F_L_spell : ∃ fd, FdL_spell K (He.ga K "_law_spell") fd
  F_law : ∃ fd, Fdlaw K (He.ga K "law") fd
  p_Desk_signs : PropOf K (He.ga K "Desk") "signs" (He.ma K (He.ga K "Desk") "signs") (propAd "Desk" "signs" K)
  p_Desk_made : PropOf K (He.ga K "Desk") "made" (He.ma K (He.ga K "Desk") "made") (propAd "Desk" "made" K)
  p_Desk_journal : PropOf K (He.ga K "Desk") "journal" (He.ma K (He.ga K "Desk") "journal") (propAd "Desk" "journal" K)
  ic_Table : C8.InsC K (He.ga K "Table")
  t_FIRST : ∃ u, SqT K (fun _ => none) (He.ga K "FIRST") [.non, .ref u] ∧ SqT K (fun _ => none) u []
  t_WAYS : SqT K (fun _ => none) (He.ga K "WAYS") [.str "apart", .str "joined"]
/-! ### what changes and what stays -/
theorem same_t {K : PySem.W.Frag} {H H' : Hp} {a : Addr} {xs : List V} (e : Same H H') (h : SqT K H a xs) : SqT K H' a xs := Evl.ex_t e h
theorem same_new {H : Hp} {p : Addr} {o : HO} (h : H p = none) : Same H (upd H p o) := Evl.Ex.new h
/-- all but the objects at S is kept -/
def Keep (S : List Addr) (H H' : Hp) : Prop := ∀ a o, H a = some o → a ∉ S → H' a = some o
theorem Keep.refl {S : List Addr} {H : Hp} : Keep S H H := fun _ _ h _ => h
theorem Keep.trans {S : List Addr} {H H1 H2 : Hp} (a : Keep S H H1) (b : Keep S H1 H2) : Keep S H H2 := fun x o h n => b x o (a x o h n) n
theorem Keep.of {S : List Addr} {H H' : Hp} (e : Same H H') : Keep S H H' := fun a o h _ => e a o h
theorem Keep.mono {S S' : List Addr} {H H' : Hp} (k : Keep S H H') (h : ∀ a ∈ S, a ∈ S') : Keep S' H H' := fun a o e n => k a o e fun z => n (h a z)
theorem Keep.upd {S : List Addr} {H H' : Hp} {p : Addr} {o : HO} (k : Keep S H H') (h : p ∈ S) : Keep S H (L2.upd H' p o) := fun a u e n => by
  rw [upd_ne (fun z => n (by rw [z]; exact h))]
  exact k a u e n
theorem Keep.new {S : List Addr} {H H' : Hp} {p : Addr} {o : HO} (k : Keep S H H') (h : H' p = none) : Keep S H (L2.upd H' p o) := fun a u e n => by
  rw [upd_ne (ne_of_none (k a u e n) h)]
  exact k a u e n
/-- an address that was free ahead is none of the kept ones -/
theorem Keep.drop {S : List Addr} {H H' : Hp} {p : Addr} (k : Keep (p :: S) H H') (h : H p = none) : Keep S H H' := fun a o e n => k a o e fun z => by
  rcases List.mem_cons.mp z with q | q
  · rw [q, h] at e; cases e
  · exact n q
/-- what is fixed: tuples, known things, the objects at Fx -/
def Fxd (Fx : List Addr) (a : Addr) (o : HO) : Prop := a ∈ Fx ∨ (∃ xs, o = .tup xs) ∨ ∃ ob xs, o = .frz ob (.tup xs)
def Imm (Fx : List Addr) (H H' : Hp) : Prop := ∀ a o, H a = some o → Fxd Fx a o → H' a = some o
theorem Imm.refl {Fx : List Addr} {H : Hp} : Imm Fx H H := fun _ _ h _ => h
theorem Imm.trans {Fx : List Addr} {H H1 H2 : Hp} (a : Imm Fx H H1) (b : Imm Fx H1 H2) : Imm Fx H H2 := fun x o h n => b x o (a x o h n) n
theorem Imm.of {Fx : List Addr} {H H' : Hp} (e : Same H H') : Imm Fx H H' := fun a o h _ => e a o h
theorem Imm.keep {Fx S : List Addr} {H H' : Hp} (k : Keep S H H') (n : ∀ a ∈ S, ∀ o, H a = some o → ¬ Fxd Fx a o) : Imm Fx H H' := fun a o h f => k a o h fun z => n a z o h f
theorem not_fxd {Fx : List Addr} {a : Addr} {o : HO} (h1 : a ∉ Fx) (h2 : ∀ xs, o ≠ .tup xs) (h3 : ∀ ob u, o ≠ .frz ob u) : ¬ Fxd Fx a o := fun z => by
  rcases z with z | ⟨xs, z⟩ | ⟨ob, u, z⟩
  · exact h1 z
  · exact h2 xs z
  · exact h3 ob _ z
section
variable {K : PySem.W.Frag} {Fx : List Addr} {H H' : Hp} {a : Addr}
theorem Imm.t {xs : List V} (e : Imm Fx H H') (h : SqT K H a xs) : SqT K H' a xs := by
  rcases h with (h | ⟨o, h⟩) | h
  · exact .inl (.inl (e _ _ h (.inr (.inl ⟨_, rfl⟩))))
  · exact .inl (.inr ⟨o, e _ _ h (.inr (.inr ⟨_, _, rfl⟩))⟩)
  · exact .inr h
theorem Imm.z {xs : List V} (e : Imm Fx H H') (h : SqZ H a xs) : SqZ H' a xs := by
  obtain ⟨o, h, d⟩ := h
  exact ⟨o, e _ _ h (.inr (.inr ⟨_, _, rfl⟩)), d⟩
theorem Imm.at_ {o : HO} (e : Imm Fx H H') (h : H a = some o) (m : a ∈ Fx) : H' a = some o := e _ _ h (.inl m)
/-- a written tuple is read whatever is tracked -/
theorem sqK {xs : List V} (h : SqT K (fun _ => none) a xs) : SqT K H a xs := by
  rcases h with (h | ⟨o, h⟩) | h
  · cases h
  · cases h
  · exact .inr h
end
/-! ### the data -/
abbrev iv (n : Nat) : V := .int (n : Int)
abbrev TI (K : PySem.W.Frag) (H : Hp) (a : Addr) (ns : List Nat) : Prop := SqT K H a (ns.map iv)
def wy (m : Mo) : Str := if m.jn = true then "joined" else "apart"
theorem paired_imp {α β : Type} {F G : α → β → Prop} : ∀ {l : List α} {l' : List β}, Paired F l l' → (∀ a b, F a b → G a b) → Paired G l l'
  | _, _, .nil, _ => .nil
  | _, _, .cons r t, f => .cons (f _ _ r) (paired_imp t f)
theorem paired_get {α β : Type} {F : α → β → Prop} : ∀ {l : List α} {l' : List β} {i : Nat} {b : β}, Paired F l l' → l'[i]? = some b → ∃ a, l[i]? = some a ∧ F a b
  | _, _, _, _, .nil, h => by simp at h
  | _, _, 0, _, .cons r _, h => by simp at h; subst h; exact ⟨_, rfl, r⟩
  | _, _, i + 1, b, .cons _ t, h => by
    obtain ⟨a, e, f⟩ := paired_get (i := i) (b := b) t (by simpa using h)
    exact ⟨a, by simpa using e, f⟩
theorem paired_len {α β : Type} {F : α → β → Prop} : ∀ {l : List α} {l' : List β}, Paired F l l' → l.length = l'.length
  | _, _, .nil => rfl
  | _, _, .cons _ t => by rw [List.length_cons, List.length_cons, paired_len t]
theorem paired_app {α β : Type} {F : α → β → Prop} : ∀ {l r : List α} {l' r' : List β}, Paired F l l' → Paired F r r' → Paired F (l ++ r) (l' ++ r')
  | _, _, _, _, .nil, s => s
  | _, _, _, _, .cons a t, s => .cons a (paired_app t s)
theorem tupT {K : PySem.W.Frag} {H : Hp} {a : Addr} {xs : List V} (h : H a = some (.tup xs)) : SqT K H a xs := .inl (.inl h)
theorem Imm.tup {Fx : List Addr} {H H' : Hp} {a : Addr} {xs : List V} (e : Imm Fx H H') (h : H a = some (.tup xs)) : H' a = some (.tup xs) := e _ _ h (.inr (.inl ⟨_, rfl⟩))
def PartR (K : PySem.W.Frag) (H : Hp) (p : Addr) (q : Nat × Nat × Nat) : Prop := ∃ t, SqT K H p [iv q.1, .ref t] ∧ H t = some (.tup [iv q.2.1, iv q.2.2])
def PartsAt (K : PySem.W.Frag) (H : Hp) (r : Addr) (pa : List (Nat × Nat × Nat)) : Prop := ∃ ps : List Addr, SqZ H r (ps.map V.ref) ∧ Paired (PartR K H) ps pa
structure ModAt (K : PySem.W.Frag) (H : Hp) (md : Addr) (m : Mo) : Prop where
  ex : ∃ c r s, SqT K H md [.ref c, .ref r, .ref s, .str (wy m)] ∧ TI K H c m.cl ∧ PartsAt K H r m.pa ∧ TI K H s m.sh
def tF (c r s : Addr) : List (Str × V) := [("classes", .ref c), ("rows", .ref r), ("closed", .ref s)]
structure TabAt (K : PySem.W.Frag) (H : Hp) (tb : Addr) (m : Mo) : Prop where
  ex : ∃ dx c r s, H tb = some (.ins (He.ga K "Table") dx (tF c r s)) ∧ TI K H c m.cl ∧ PartsAt K H r m.pa ∧ TI K H s m.sh
section
variable {K : PySem.W.Frag} {Fx : List Addr} {H H' : Hp} {a : Addr} {m : Mo}
theorem PartsAt.imm {pa : List (Nat × Nat × Nat)} (h : PartsAt K H a pa) (e : Imm Fx H H') : PartsAt K H' a pa := by
  obtain ⟨ps, h1, h2⟩ := h
  refine ⟨ps, e.z h1, paired_imp h2 fun p q z => ?_⟩
  obtain ⟨t, z1, z2⟩ := z
  exact ⟨t, e.t z1, e.tup z2⟩
theorem ModAt.imm (h : ModAt K H a m) (e : Imm Fx H H') : ModAt K H' a m := by
  obtain ⟨c, r, s, h1, h2, h3, h4⟩ := h.ex
  exact ⟨c, r, s, e.t h1, e.t h2, h3.imm e, e.t h4⟩
theorem TabAt.imm (h : TabAt K H a m) (e : Imm Fx H H') (ha : a ∈ Fx) : TabAt K H' a m := by
  obtain ⟨dx, c, r, s, h1, h2, h3, h4⟩ := h.ex
  exact ⟨dx, c, r, s, e.at_ h1 ha, e.t h2, h3.imm e, e.t h4⟩
theorem TabAt.same (h : TabAt K H a m) (e : Same H H') : TabAt K H' a m := h.imm (Imm.of (Fx := [a]) e) (by simp)
theorem ModAt.same (h : ModAt K H a m) (e : Same H H') : ModAt K H' a m := h.imm (Imm.of (Fx := []) e)
theorem PartsAt.same {pa : List (Nat × Nat × Nat)} (h : PartsAt K H a pa) (e : Same H H') : PartsAt K H' a pa := h.imm (Imm.of (Fx := []) e)
end
/-! ### edits, the history -/
structure Ed where
  put : Bool
  at_ : Nat
  sg : Nat
  deriving DecidableEq
abbrev Hist := List (Ed × List Nat)
def cur (hs : Hist) : List Nat := match hs.getLast? with
  | some p => p.2
  | none => []
def notes (hs : Hist) : List (Ed × List Nat) := (hs.map (·.1)).zip ([] :: hs.map (·.2))
def edV (ed : Ed) : V := .str (if ed.put = true then "put" else "take")
abbrev EdAt (K : PySem.W.Frag) (H : Hp) (e : Addr) (ed : Ed) : Prop := SqT K H e [edV ed, iv ed.at_, iv ed.sg]
def NoteR (K : PySem.W.Frag) (H : Hp) (n : Addr) (q : Ed × List Nat) : Prop := ∃ e t, SqT K H n [.ref e, .ref t] ∧ EdAt K H e q.1 ∧ TI K H t q.2
def NotesAt (K : PySem.W.Frag) (H : Hp) (ns : Addr) (l : List (Ed × List Nat)) : Prop := ∃ nv : List Addr, SqT K H ns (nv.map V.ref) ∧ Paired (NoteR K H) nv l
def KeptAt (K : PySem.W.Frag) (H : Hp) (k : Addr) (hs : Hist) (fl : Nat) : Prop := ∃ t ns, SqT K H k [.ref t, .ref ns, iv fl] ∧ TI K H t (cur hs) ∧ NotesAt K H ns (notes hs)
def dF (b k : Addr) : List (Str × V) := [("base", .ref b), ("kept", .ref k)]
def DeskAt (K : PySem.W.Frag) (H : Hp) (p tb : Addr) (m : Mo) (hs : Hist) (fl : Nat) : Prop := ∃ dx b k, H p = some (.ins (He.ga K "Desk") dx (dF b k)) ∧ SqT K H b [.ref tb, .str (wy m)] ∧ KeptAt K H k hs fl
def RowsAt (K : PySem.W.Frag) (H : Hp) (r : Addr) (hs : Hist) : Prop := ∃ q0 t0 rv, H r = some (.lst (V.ref q0 :: rv.map V.ref)) ∧ SqT K H q0 [.non, .ref t0] ∧ TI K H t0 [] ∧ Paired (NoteR K H) rv hs
section
variable {K : PySem.W.Frag} {Fx : List Addr} {H H' : Hp} {a : Addr} {m : Mo} {hs : Hist} {fl : Nat}
theorem NoteR.imm {q : Ed × List Nat} (h : NoteR K H a q) (e : Imm Fx H H') : NoteR K H' a q := by
  obtain ⟨x, t, h1, h2, h3⟩ := h
  exact ⟨x, t, e.t h1, e.t h2, e.t h3⟩
theorem NotesAt.imm {l : List (Ed × List Nat)} (h : NotesAt K H a l) (e : Imm Fx H H') : NotesAt K H' a l := by
  obtain ⟨nv, h1, h2⟩ := h
  exact ⟨nv, e.t h1, paired_imp h2 fun _ _ z => z.imm e⟩
theorem KeptAt.imm (h : KeptAt K H a hs fl) (e : Imm Fx H H') : KeptAt K H' a hs fl := by
  obtain ⟨t, ns, h1, h2, h3⟩ := h
  exact ⟨t, ns, e.t h1, e.t h2, h3.imm e⟩
theorem DeskAt.imm {tb : Addr} (h : DeskAt K H a tb m hs fl) (e : Imm Fx H H') (hp : ∀ o, H a = some o → H' a = some o) : DeskAt K H' a tb m hs fl := by
  obtain ⟨dx, b, k, h1, h2, h3⟩ := h
  exact ⟨dx, b, k, hp _ h1, e.t h2, h3.imm e⟩
theorem RowsAt.imm (h : RowsAt K H a hs) (e : Imm Fx H H') (hp : ∀ o, H a = some o → H' a = some o) : RowsAt K H' a hs := by
  obtain ⟨q0, t0, rv, h1, h2, h3, h4⟩ := h
  exact ⟨q0, t0, rv, hp _ h1, e.t h2, e.t h3, paired_imp h4 fun _ _ z => z.imm e⟩
theorem DeskAt.same {tb : Addr} (h : DeskAt K H a tb m hs fl) (e : Same H H') : DeskAt K H' a tb m hs fl := h.imm (Imm.of (Fx := []) e) fun o z => e _ _ z
theorem RowsAt.same (h : RowsAt K H a hs) (e : Same H H') : RowsAt K H' a hs := h.imm (Imm.of (Fx := []) e) fun o z => e _ _ z
end
theorem cur_nil : cur [] = [] := rfl
theorem cur_snoc {hs : Hist} {q : Ed × List Nat} : cur (hs ++ [q]) = q.2 := by unfold cur; rw [List.getLast?_concat]
theorem zip_snoc {α β : Type} {x : α} : ∀ {l : List α} {l' : List β} {y : β}, l'.length = l.length → (l ++ [x]).zip (l' ++ [y]) = l.zip l' ++ [(x, y)]
  | [], [], _, _ => rfl
  | [], _ :: _, _, h => by cases h
  | _ :: _, [], _, h => by cases h
  | a :: l, b :: l', y, h => by
    show (a, b) :: (l ++ [x]).zip (l' ++ [y]) = (a, b) :: (l.zip l' ++ [(x, y)])
    rw [zip_snoc (by simpa using h)]
theorem zip_cut {α β : Type} : ∀ {l : List α} {l' : List β} {y : List β}, l.length ≤ l'.length → l.zip (l' ++ y) = l.zip l'
  | [], _, _, _ => rfl
  | _ :: _, [], _, h => by simp at h
  | a :: l, b :: l', y, h => by
    show (a, b) :: l.zip (l' ++ y) = (a, b) :: l.zip l'
    rw [zip_cut (by simpa using h)]
theorem pre_last (hs : Hist) : ([] : List Nat) :: hs.map (·.2) = ([] :: hs.map (·.2)).take hs.length ++ [cur hs] := by
  rcases List.eq_nil_or_concat hs with e | ⟨l, q, e⟩
  · subst e; rfl
  · rw [e, List.concat_eq_append, cur_snoc]
    simp
theorem notes_snoc {hs : Hist} {q : Ed × List Nat} : notes (hs ++ [q]) = notes hs ++ [(q.1, cur hs)] := by
  unfold notes
  rw [List.map_append, List.map_append]
  have e : ([] : List Nat) :: (hs.map (·.2) ++ [q].map (·.2)) = (([] : List Nat) :: hs.map (·.2)) ++ [q.2] := rfl
  rw [e]
  have h1 := pre_last hs
  have hl : (hs.map (·.1) ++ [q].map (·.1)).length ≤ (([] : List Nat) :: hs.map (·.2)).length := by simp
  rw [zip_cut hl, h1]
  have h2 : (([] :: hs.map (·.2)).take hs.length).length = (hs.map (·.1)).length := by simp
  show (hs.map (·.1) ++ [q.1]).zip _ = _
  rw [zip_snoc h2]
  congr 1
  rw [zip_cut (by simp)]
theorem notes_len {hs : Hist} : (notes hs).length = hs.length := by unfold notes; simp
theorem notes_fst {hs : Hist} : (notes hs).map (·.1) = hs.map (·.1) := by
  unfold notes
  rw [List.map_fst_zip (by simp)]
end Des
end T_DBase
section T_D1
set_option linter.all false
set_option maxRecDepth 100000
set_option maxHeartbeats 2000000
namespace Des
open PySem PySem.Spec PyProof.Rows L2
open C8 (Cal Met Mak pe_c pe_mk pe_mt pe_mt0)
section
variable {P : Program} {w : World} {K : PySem.W.Frag} {mg : Str → Option Value} {base : Heap}
/-- a def of the module, from its body -/
theorem calOf {x : Str} {st : Stmt} {fd : FuncData} {N ps : List Str} {k : Nat} {sp : Sp} (F : FunD K x x (defArgs st) (defBody st) (defScope st) [] [] (He.ga K x) fd) (b : Binds K fd ps []) (g : mg x = some (.ref (He.ga K x))) (S : FnScope N ps (defScope st))
    (len : ∀ vs H Q E, sp vs H Q E → vs.length = ps.length)
    (hbody : ∀ (cdv : Value) (A : Around) (outer : List Env) (s : Shared) (H : Hp) (vs : List V) (Q : VK) (E : XK), Room k (A.deeper (envOfC x (defScope st) s.heap.objs.size (He.ga K x) cdv)) → sp vs H Q E →
      ∃ t, PSs (cxOf CX0 P w K mg base N x (defScope st) (He.ga K x) cdv A outer s H E).nox (defBody st) t ∧ t { nx := fun _ H' => Q .non H', rt := Q } (start N vs) H) : Cal P w K mg base (k + 1) x sp [] :=
  ⟨_, fd, ps, [], F.ok S len (fun cdv A outer s H vs Q E hr h => by
    obtain ⟨t, h1, h2⟩ := hbody cdv A outer s H vs Q E hr h
    exact ⟨t, h1.nox, h2⟩), g, F.kp, b, .nil⟩
/-- a method -/
theorem metOf {m qual : Str} {C f : Addr} {st : Stmt} {fd : FuncData} {N ps : List Str} {k : Nat} {sp : Sp} (F : FunD K m qual (defArgs st) (defBody st) (defScope st) [] [] f fd) (b : Binds K fd ps []) (c : Cls K C) (me : Meth K C m f) (S : FnScope N ps (defScope st))
    (len : ∀ vs H Q E, sp vs H Q E → vs.length = ps.length)
    (hbody : ∀ (cdv : Value) (A : Around) (outer : List Env) (s : Shared) (H : Hp) (vs : List V) (Q : VK) (E : XK), Room k (A.deeper (envOfC qual (defScope st) s.heap.objs.size f cdv)) → sp vs H Q E →
      ∃ t, PSs (cxOf CX0 P w K mg base N qual (defScope st) f cdv A outer s H E).nox (defBody st) t ∧ t { nx := fun _ H' => Q .non H', rt := Q } (start N vs) H) : Met P w K mg base (k + 1) C m sp [] :=
  ⟨f, fd, ps, [], c, me, F.ok S len (fun cdv A outer s H vs Q E hr h => by
    obtain ⟨t, h1, h2⟩ := hbody cdv A outer s H vs Q E hr h
    exact ⟨t, h1.nox, h2⟩), b, .nil⟩
/-! ### is_number -/
def isNum (x : V) (lo hi : Int) : Bool := match x with
  | .int i => decide (lo ≤ i) && decide (i ≤ hi)
  | _ => false
/-- a value that may be asked -/
def simV (x : V) : Prop := x = .non ∨ (∃ b, x = .bl b) ∨ ∃ i, x = .int i
def spNum : Sp := fun vs H Q _ => ∃ x lo hi, vs = [x, .int lo, .int hi] ∧ simV x ∧ Q (.bl (isNum x lo hi)) H
theorem kNone_int : PySem.W.kitOne K (.type "NoneType") (.type "int") = some false := kit_ty (by decide +kernel)
theorem kBool_int : PySem.W.kitOne K (.type "bool") (.type "int") = some true := kit_ty (by decide +kernel)
theorem kInt_int : PySem.W.kitOne K (.type "int") (.type "int") = some true := kit_ty (by decide +kernel)
theorem kBool_bool : PySem.W.kitOne K (.type "bool") (.type "bool") = some true := kit_ty (by decide +kernel)
theorem kInt_bool : PySem.W.kitOne K (.type "int") (.type "bool") = some false := kit_ty (by decide +kernel)
theorem k_is_number (T : Tx K mg) : Cal P w K mg base 1 "is_number" spNum [] := by
  obtain ⟨fd, F⟩ := T.F_is_number
  refine calOf F (bis_number F) T.g_is_number scis_number (fun vs H Q E h => ?_) (fun cdv A outer s H vs Q E hr h => ?_)
  · obtain ⟨x, lo, hi, rfl, _⟩ := h
    rfl
  · obtain ⟨x, lo, hi, rfl, sv, q⟩ := h
    refine ⟨_, pss_one (ps_ret (pe_and (pe_callB call_isi rfl T.n_isinstance (by decide +kernel) (pa_cons (pv 0) (pa_cons (pe_bltn (v := .ty "int") rfl T.n_int (by decide +kernel) rfl) pa_nil)))
      (pe_and (pe_not (pe_callB call_isi rfl T.n_isinstance (by decide +kernel) (pa_cons (pv 0) (pa_cons (pe_bltn (v := .ty "bool") rfl T.n_bool (by decide +kernel) rfl) pa_nil))))
        (pe_one (pe_chain op_le op_le (pv 1) (pv 0) (pv 2)))))), ?_⟩
    rcases sv with rfl | ⟨b, rfl⟩ | ⟨i, rfl⟩
    · exact ⟨_, rfl, _, _, _, _, _, rfl, .ty "int", .base .non, kNone_int, _, rfl, iteF q⟩
    · refine ⟨_, rfl, _, _, _, _, _, rfl, .ty "int", .base (.bl b), kBool_int, _, rfl, iteT ?_⟩
      exact ⟨_, rfl, _, _, _, _, _, rfl, .ty "bool", .base (.bl b), kBool_bool, _, rfl, _, rfl, iteF q⟩
    · refine ⟨_, rfl, _, _, _, _, _, rfl, .ty "int", .base (.int i), kInt_int, _, rfl, iteT ?_⟩
      refine ⟨_, rfl, _, _, _, _, _, rfl, .ty "bool", .base (.int i), kInt_bool, _, rfl, _, rfl, iteT ?_⟩
      refine ⟨_, rfl, _, rfl, _, _, rfl, rfl, _, rfl, ?_⟩
      have q : Q (.bl (decide (lo ≤ i) && decide (i ≤ hi))) H := q
      by_cases c : lo ≤ i
      · rw [decide_eq_true c] at q ⊢
        refine iteT ⟨_, rfl, _, _, rfl, rfl, ?_⟩
        simpa using q
      · rw [decide_eq_false c] at q ⊢
        exact iteF (by simpa using q)
/-! ### data -/
def dI (n : Nat) : PyData := .int (n : Int)
def dT (ns : List Nat) : PyData := .tuple (ns.map dI)
theorem dp_ints {H : Hp} : ∀ ns : List Nat, DpAll K H (ns.map iv) (ns.map dI)
  | [] => .nil
  | _ :: r => .cons (.int _) (dp_ints r)
theorem dp_text {H : Hp} {a : Addr} {ns : List Nat} (h : TI K H a ns) : Dp K H (.ref a) (dT ns) := .tup h (dp_ints ns)
theorem eqv_ints : ∀ ns ms : List Nat, PyData.eqvAll (ns.map dI) (ms.map dI) = decide (ns = ms)
  | [], [] => by simp [PyData.eqvAll]
  | [], _ :: _ => by simp [PyData.eqvAll]
  | _ :: _, [] => by simp [PyData.eqvAll]
  | n :: ns, m :: ms => by
    rw [List.map_cons, List.map_cons]
    simp only [PyData.eqvAll, dI, PyData.eqv]
    rw [show PyData.eqvAll (List.map dI ns) (List.map dI ms) = decide (ns = ms) from eqv_ints ns ms]
    by_cases h : n = m
    · subst h
      simp
    · have h2 : ((n : Int) == (m : Int)) = false := by
        rw [beq_eq_false_iff_ne]
        omega
      rw [h2]
      simp [h]
theorem eqv_text (ns ms : List Nat) : PyData.eqv (dT ns) (dT ms) = decide (ns = ms) := by
  unfold dT
  simp only [PyData.eqv]
  exact eqv_ints ns ms
theorem lay_ints : ∀ ns : List Nat, PyData.canLayAll0 (ns.map dI) = true
  | [] => by simp [PyData.canLayAll0]
  | n :: r => by
    rw [List.map_cons]
    simp only [PyData.canLayAll0, dI, PyData.canLay0, Bool.true_and]
    exact lay_ints r
theorem depth_ints : ∀ ns : List Nat, PyData.depthAll (ns.map dI) = 0
  | [] => by simp [PyData.depthAll]
  | n :: r => by
    rw [List.map_cons]
    simp only [PyData.depthAll, dI, PyData.depth]
    rw [show PyData.depthAll (List.map dI r) = 0 from depth_ints r]
    rfl
theorem shaped_text (ns : List Nat) : SeqAt.shaped (dT ns) = true := by
  unfold SeqAt.shaped dT
  simp only [PyData.canLay0, PyData.depth, lay_ints, depth_ints]
  decide
/-- the fields of a table, a desk -/
theorem lk_at {k : Str} {v : V} {r : List (Str × V)} : List.lookup k ((k, v) :: r) = some v := by
  have e : (k == k) = true := beq_self_eq_true k
  simp only [List.lookup, e]
theorem lk_on {k g : Str} {v : V} {r : List (Str × V)} (h : (k == g) = false) : List.lookup k ((g, v) :: r) = List.lookup k r := by
  simp only [List.lookup, h]
theorem tF_classes (c r s : Addr) : (tF c r s).lookup ("classes" : Str) = some (.ref c) := lk_at
theorem tF_rows (c r s : Addr) : (tF c r s).lookup ("rows" : Str) = some (.ref r) := (lk_on (by decide +kernel)).trans lk_at
theorem tF_closed (c r s : Addr) : (tF c r s).lookup ("closed" : Str) = some (.ref s) := (lk_on (by decide +kernel)).trans ((lk_on (by decide +kernel)).trans lk_at)
theorem tF_no (c r s : Addr) {x : Str} (h1 : (x == ("classes" : Str)) = false) (h2 : (x == ("rows" : Str)) = false) (h3 : (x == ("closed" : Str)) = false) : (tF c r s).lookup x = none := (lk_on h1).trans ((lk_on h2).trans ((lk_on h3).trans rfl))
theorem dF_base (b k : Addr) : (dF b k).lookup ("base" : Str) = some (.ref b) := lk_at
theorem dF_kept (b k : Addr) : (dF b k).lookup ("kept" : Str) = some (.ref k) := (lk_on (by decide +kernel)).trans lk_at
theorem dF_no (b k : Addr) {x : Str} (h1 : (x == ("base" : Str)) = false) (h2 : (x == ("kept" : Str)) = false) : (dF b k).lookup x = none := (lk_on h1).trans ((lk_on h2).trans rfl)
theorem putF_at {f : Str} {v x : V} {r : List (Str × V)} : putF f v ((f, x) :: r) = (f, v) :: r := if_pos rfl
theorem putF_on {f g : Str} {v x : V} {r : List (Str × V)} (h : ¬ g = f) : putF f v ((g, x) :: r) = (g, x) :: putF f v r := if_neg h
theorem dF_put (b k k' : Addr) : putF "kept" (.ref k') (dF b k) = dF b k' := (putF_on (by decide +kernel)).trans (congrArg _ putF_at)
/-! ### methods that may raise -/
structure MetX (P : Program) (w : World) (K : PySem.W.Frag) (mg : Str → Option Value) (base : Heap) (k : Nat) (C : Addr) (m : Str) (sp : Sp) : Prop where
  ex : ∃ (f : Addr) (fd : FuncData) (ps : List Str), Cls K C ∧ Meth K C m f ∧ FnOk P w K mg base (L2.CX P w) k f fd ps sp ∧ Binds K fd ps []
theorem metXOf {m qual : Str} {C f : Addr} {st : Stmt} {fd : FuncData} {N ps : List Str} {k : Nat} {sp : Sp} (F : FunD K m qual (defArgs st) (defBody st) (defScope st) [] [] f fd) (b : Binds K fd ps []) (c : Cls K C) (me : Meth K C m f) (S : FnScope N ps (defScope st))
    (len : ∀ vs H Q E, sp vs H Q E → vs.length = ps.length)
    (hbody : ∀ (cdv : Value) (A : Around) (outer : List Env) (s : Shared) (H : Hp) (vs : List V) (Q : VK) (E : XK), Room k (A.deeper (envOfC qual (defScope st) s.heap.objs.size f cdv)) → sp vs H Q E →
      ∃ t, PSs (cxOf (L2.CX P w) P w K mg base N qual (defScope st) f cdv A outer s H E) (defBody st) t ∧ t { nx := fun _ H' => Q .non H', rt := Q } (start N vs) H) : MetX P w K mg base (k + 1) C m sp :=
  ⟨f, fd, ps, c, me, F.ok S len hbody, b⟩
end
section
variable {X : Cx} {k j : Nat} {C : Addr} {m : Str} {sp : Sp} {W : WX} {pos apos : Pos} {e o : Expr} {es : List Expr} {ta : TE} {t : TA}
theorem pe_mtX {pl : Sem Bool} (c : MetX X.prog X.w X.K X.mg X.base k C m sp) (hr : Room j X.A) (hk : k ≤ j) (tk : Takes X W) (he : PE X o ta) (ha : PA X (e :: es) t)
    (hst : starEach (e :: es) X.env = (false, eval e X.env) :: starEach es X.env := by rfl) (hpl : (backTo pos (starEach es X.env)).any (·.1) = false := by rfl)
    (ht : eval (.Call (.Attribute o m apos) (e :: es) [] pos) X.env = (do
      let ov ← eval o X.env
      standAt apos.atName
      let (f, first) ← holding [ov] (getMethod ov m pl)
      callWith pos f first (backTo pos (starEach (e :: es) X.env)) (backToKw pos (keywordEach [] X.env))) := by rfl) :
    PE X (.Call (.Attribute o m apos) (e :: es) [] pos) (tMethX C m sp (WE W) ta t) := by
  obtain ⟨f, fd, ps, hc, hm, F, b⟩ := c.ex
  exact pe_methX (pl := pl) he hc hm F (hr.mono hk) b (passAt tk) ha hst hpl ht
theorem pe_mtX0 {pl : Sem Bool} (c : MetX X.prog X.w X.K X.mg X.base k C m sp) (hr : Room j X.A) (hk : k ≤ j) (tk : Takes X W) (he : PE X o ta)
    (ht : eval (.Call (.Attribute o m apos) [] [] pos) X.env = (do
      let ov ← eval o X.env
      standAt apos.atName
      let (f, first) ← holding [ov] (getMethod ov m pl)
      callWith pos f first (backTo pos (starEach [] X.env)) (backToKw pos (keywordEach [] X.env))) := by rfl) :
    PE X (.Call (.Attribute o m apos) [] [] pos) (tMethX C m sp (WE W) ta tNil) := by
  obtain ⟨f, fd, ps, hc, hm, F, b⟩ := c.ex
  exact pe_methX0 (pl := pl) he hc hm F (hr.mono hk) b (passAt tk) ht
end
end Des
end T_D1
section T_D2
set_option linter.all false
set_option maxRecDepth 100000
set_option maxHeartbeats 2000000
namespace Des
open PySem PySem.Spec PyProof.Rows L2
open C8 (Cal Met Mak pe_c pe_mk pe_mt pe_mt0)
section
variable {P : Program} {w : World} {K : PySem.W.Frag} {mg : Str → Option Value} {base : Heap}
theorem boot_tuple_ : bootBuiltins "tuple" = some (.type "tuple") := by decide +kernel
theorem boot_dict_ : bootBuiltins "dict" = some (.type "dict") := by decide +kernel
theorem isNum_nat {n : Nat} {k : Int} (h : (n : Int) ≤ k) : isNum (iv n) 0 k = true := by
  unfold isNum
  simp only [Bool.and_eq_true, decide_eq_true_eq]
  omega
/-! ### Table.check_sign -/
def spChk0 (K : PySem.W.Frag) : Sp := fun vs H Q _ => ∃ tb m n, vs = [.ref tb, iv n] ∧ TabAt K H tb m ∧ n < m.n ∧ Q .non H
theorem k_check0 (T : Tx K mg) : Met P w K mg base 2 (He.ga K "Table") "check_sign" (spChk0 K) [] := by
  obtain ⟨fd, F⟩ := T.F_Table_check_sign
  refine metOf F (bTable_check_sign F) T.cl_Table T.m_Table_check_sign scTable_check_sign (fun vs H Q E h => ?_) (fun cdv A outer s H vs Q E hr h => ?_)
  · obtain ⟨tb, m, n, rfl, _⟩ := h
    rfl
  · obtain ⟨tb, m, n, rfl, ht, hn, q⟩ := h
    obtain ⟨dx, c, r, s', h1, h2, h3, h4⟩ := ht.ex
    refine ⟨_, pss_one (ps_if (pt_not (pt_val (pe_c (k_is_number T) hr (by decide) rfl (pa_cons (pv 1) (pa_cons pe_int (pa_cons (pe_op op_sub (pe_callB call_len_seq rfl T.n_len PySem.boot_len (pa_cons (pe_fld (pv 0) rfl) pa_nil)) pe_int) pa_nil))))))
      (pss_one ps_never) pss_nil), ?_⟩
    refine ⟨_, rfl, _, rfl, tb, _, dx, _, _, rfl, h1, T.cl_Table, T.na_Table_classes, tF_classes _ _ _, c, _, rfl, .inr h2, _, _, rfl, rfl, _, _, _, rfl, .inr (.inr ⟨_, rfl⟩), _, rfl, ?_⟩
    have e : isNum (iv n) 0 ((List.map iv m.cl).length - 1 : Int) = true := isNum_nat (by rw [List.length_map]; unfold Mo.n at hn; omega)
    rw [e]
    exact iteF q
def spChkX (K : PySem.W.Frag) : Sp := fun vs H Q E => ∃ tb m x, vs = [.ref tb, x] ∧ TabAt K H tb m ∧ simV x ∧ (isNum x 0 ((m.n : Int) - 1) = true → Q .non H) ∧ (isNum x 0 ((m.n : Int) - 1) = false → E (.ref (He.ga K "BadSign")) none H)
theorem k_checkX (T : Tx K mg) : MetX P w K mg base 2 (He.ga K "Table") "check_sign" (spChkX K) := by
  obtain ⟨fd, F⟩ := T.F_Table_check_sign
  refine metXOf F (bTable_check_sign F) T.cl_Table T.m_Table_check_sign scTable_check_sign (fun vs H Q E h => ?_) (fun cdv A outer s H vs Q E hr h => ?_)
  · obtain ⟨tb, m, x, rfl, _⟩ := h
    rfl
  · obtain ⟨tb, m, x, rfl, ht, sv, q1, q2⟩ := h
    obtain ⟨dx, c, r, s', h1, h2, h3, h4⟩ := ht.ex
    obtain ⟨x1, x2, x3, x4⟩ := T.x_BadSign
    refine ⟨_, pss_one (ps_if (pt_not (pt_val (pe_c (k_is_number T) hr (by decide) rfl (pa_cons (pv 1) (pa_cons pe_int (pa_cons (pe_op op_sub (pe_callB call_len_seq rfl T.n_len PySem.boot_len (pa_cons (pe_fld (pv 0) rfl) pa_nil)) pe_int) pa_nil))))))
      (pss_one (ps_raise rfl (takes_of rfl rfl rfl rfl) (pmk_own PySem.F.excBase_ValueError x1 T.g_BadSign x2 (raises_own x3 x4) rfl))) pss_nil), ?_⟩
    refine ⟨_, rfl, _, rfl, tb, _, dx, _, _, rfl, h1, T.cl_Table, T.na_Table_classes, tF_classes _ _ _, c, _, rfl, .inr h2, _, _, rfl, rfl, _, _, _, rfl, sv, _, rfl, ?_⟩
    have el : ((List.map iv m.cl).length - 1 : Int) = (m.n : Int) - 1 := by rw [List.length_map]; rfl
    rw [el]
    cases e : isNum x 0 ((m.n : Int) - 1) with
    | true => exact iteF (q1 e)
    | false => exact iteT (q2 e)
/-! ### len(table) -/
def spTLen (K : PySem.W.Frag) : Sp := fun vs H Q _ => ∃ tb m, vs = [.ref tb] ∧ TabAt K H tb m ∧ Q (iv m.n) H
theorem k_table_len (T : Tx K mg) : Met P w K mg base 1 (He.ga K "Table") "__len__" (spTLen K) [] := by
  obtain ⟨fd, F⟩ := T.F_Table_len
  refine metOf F (bTable_len F) T.cl_Table T.m_Table_len scTable_len (fun vs H Q E h => ?_) (fun cdv A outer s H vs Q E hr h => ?_)
  · obtain ⟨tb, m, rfl, _⟩ := h
    rfl
  · obtain ⟨tb, m, rfl, ht, q⟩ := h
    obtain ⟨dx, c, r, s', h1, h2, h3, h4⟩ := ht.ex
    refine ⟨_, pss_one (ps_ret (pe_callB call_len_seq rfl T.n_len PySem.boot_len (pa_cons (pe_fld (pv 0) rfl) pa_nil))), ?_⟩
    refine ⟨_, rfl, tb, _, dx, _, _, rfl, h1, T.cl_Table, T.na_Table_classes, tF_classes _ _ _, c, _, rfl, .inr h2, ?_⟩
    have el : (List.map iv m.cl).length = m.n := by rw [List.length_map]; rfl
    rw [el]
    exact q
/-- what len asks of a table -/
theorem call_lenT {X : Cx} {k : Nat} (c : Met X.prog X.w X.K X.mg X.base k (He.ga X.K "Table") "__len__" (spTLen X.K) []) (hr : Room (k + 1) X.A) : CallR X (.builtin "len") (fun xs H Q => ∃ tb m, xs = [.ref tb] ∧ TabAt X.K H tb m ∧ m.Ok ∧ Q (iv m.n) H) := by
  obtain ⟨f, fd, ps, ds, hc, hm, F, b, d⟩ := c.ex
  intro pins s σ H xs us Q I r q
  obtain ⟨tb, m, ex, ht, ok, q⟩ := q
  cases d
  obtain ⟨dx, c, r', s', h1, _⟩ := ht.ex
  exact call_lenOwn hm F hr b pass0 pins s σ H xs us Q I r ⟨tb, dx, _, ex, h1, tb, m, rfl, ht, (m.n : Int), rfl, by omega, by have := ok.n6; unfold Mo.n; omega, q⟩
/-! ### dict(rows).get(sign) -/
theorem key_ne {a b : Nat} (h : a ≠ b) : ¬ (Sum.inl (a : Int) : Key) = Sum.inl (b : Int) := fun z => h (by have := Sum.inl.inj z; omega)
/-- the pairs as the dict has them -/
def kvP (ts : List Addr) (pa : List (Nat × Nat × Nat)) : List (Key × V) := (pa.zip ts).map fun q => (Sum.inl (q.1.1 : Int), V.ref q.2)
theorem valV_kvP : ∀ (ts : List Addr) (pa : List (Nat × Nat × Nat)) (s : Nat), ts.length = pa.length →
    (pa.lookup s = none ∧ valV (kvP ts pa) (Sum.inl (s : Int)) = none) ∨ ∃ (i : Nat) (q : Nat × Nat × Nat) (t : Addr), pa[i]? = some q ∧ ts[i]? = some t ∧ q.1 = s ∧ pa.lookup s = some q.2 ∧ valV (kvP ts pa) (Sum.inl (s : Int)) = some (V.ref t)
  | [], [], s, _ => .inl ⟨rfl, rfl⟩
  | [], _ :: _, s, h => by cases h
  | _ :: _, [], s, h => by cases h
  | t :: ts, q :: pa, s, h => by
    obtain ⟨a, b⟩ := q
    by_cases e : s = a
    · subst e
      refine .inr ⟨0, (s, b), t, rfl, rfl, rfl, by simp [List.lookup], ?_⟩
      show valV ((Sum.inl (s : Int), V.ref t) :: kvP ts pa) _ = _
      rw [valV_pos rfl]
    · have e1 : (a :: pa.map (·.1)).head? = some a := rfl
      have e2 : ((a, b) :: pa).lookup s = pa.lookup s := by
        have : (s == a) = false := by simp [e]
        simp only [List.lookup, this]
      have e3 : valV (kvP (t :: ts) ((a, b) :: pa)) (Sum.inl (s : Int)) = valV (kvP ts pa) (Sum.inl (s : Int)) := by
        show valV ((Sum.inl (a : Int), V.ref t) :: kvP ts pa) _ = _
        rw [valV_neg (key_ne (fun z => e z.symm))]
      rw [e2, e3]
      rcases valV_kvP ts pa s (by simpa using h) with z | ⟨i, q, t', z1, z2, z3, z4, z5⟩
      · exact .inl z
      · exact .inr ⟨i + 1, q, t', by simpa using z1, by simpa using z2, z3, z4, z5⟩
theorem kvP_none : ∀ {ts : List Addr} {pa : List (Nat × Nat × Nat)} {s : Nat}, (∀ q ∈ pa, q.1 ≠ s) → valV (kvP ts pa) (Sum.inl (s : Int)) = none
  | [], [], s, _ => rfl
  | [], _ :: _, s, _ => rfl
  | _ :: _, [], s, _ => rfl
  | t :: ts, q :: pa, s, h => by
    show valV ((Sum.inl (q.1 : Int), V.ref t) :: kvP ts pa) _ = _
    rw [valV_neg (key_ne (h q (by simp)))]
    exact kvP_none fun q hq => h q (by simp [hq])
theorem merge_new : ∀ (more acc : List (Key × V)), (more.map (·.1)).Nodup → (∀ kv ∈ more, valV acc kv.1 = none) → mergeK acc more = acc ++ more
  | [], acc, _, _ => by simp [mergeK]
  | kv :: r, acc, hn, hv => by
    have hn' : kv.1 ∉ r.map (·.1) ∧ (r.map (·.1)).Nodup := List.nodup_cons.mp hn
    show mergeK (putK acc kv.1 kv.2) r = _
    rw [putK_new kv.2 (hv kv (by simp))]
    rw [merge_new r (acc ++ [(kv.1, kv.2)]) hn'.2 fun kv' h' => ?_]
    · simp
    · rw [valV_snoc _ _ _ _ (hv kv (by simp))]
      rw [if_neg (fun z => hn'.1 (by rw [← z]; exact List.mem_map.mpr ⟨kv', h', rfl⟩))]
      exact hv kv' (by simp [h'])
theorem kvP_keys : ∀ {ts : List Addr} {pa : List (Nat × Nat × Nat)}, ts.length = pa.length → (kvP ts pa).map (·.1) = pa.map fun q => (Sum.inl (q.1 : Int) : Key)
  | [], [], _ => rfl
  | [], _ :: _, h => by cases h
  | _ :: _, [], h => by cases h
  | t :: ts, q :: pa, h => by
    show _ :: (kvP ts pa).map (·.1) = _
    rw [kvP_keys (by simpa using h)]
    rfl
theorem kvP_nodup {ts : List Addr} {pa : List (Nat × Nat × Nat)} (hl : ts.length = pa.length) (h : pa.Pairwise (fun a b => a.1 < b.1)) : ((kvP ts pa).map (·.1)).Nodup := by
  rw [kvP_keys hl]
  rw [List.nodup_iff_pairwise_ne, List.pairwise_map]
  exact h.imp fun {a b} hab z => by
    have := Sum.inl.inj z
    omega
/-- the parts, as the rule for dict wants them -/
theorem parts_kvs {H : Hp} : ∀ {ps : List Addr} {pa : List (Nat × Nat × Nat)}, Paired (PartR K H) ps pa → ∃ ts : List Addr, ts.length = pa.length ∧ Paired (fun p kv => SqT K H p [kV kv.1, kv.2]) ps (kvP ts pa) ∧ ∀ (i : Nat) (q : Nat × Nat × Nat) (t : Addr), pa[i]? = some q → ts[i]? = some t → SqT K H t [iv q.2.1, iv q.2.2]
  | _, _, .nil => ⟨[], rfl, .nil, fun i q t h => by simp at h⟩
  | _, _, .cons (a := p) (b := q) r t => by
    obtain ⟨ts, h1, h2, h3⟩ := parts_kvs t
    obtain ⟨u, u1, u2⟩ := r
    refine ⟨u :: ts, by rw [List.length_cons, List.length_cons, h1], .cons u1 h2, fun i q' t' e1 e2 => ?_⟩
    cases i with
    | zero =>
      simp only [List.getElem?_cons_zero, Option.some.injEq] at e1 e2
      subst e1 e2
      exact tupT u2
    | succ i => exact h3 i q' t' (by simpa using e1) (by simpa using e2)
/-- dict(the parts at r).get(sign): None, or the pair -/
theorem get_parts {H : Hp} {r : Addr} {m : Mo} (s : Nat) (ok : m.Ok) (h : PartsAt K H r m.pa) :
    ∃ (ps : List Addr) (kvs : List (Key × V)), SqZ H r (ps.map V.ref) ∧ Paired (fun p kv => SqT K H p [kV kv.1, kv.2]) ps kvs ∧
      ∀ p, H p = none → IsD (upd H p (.dK (mergeK [] kvs))) p ∧ ∃ o, DGet (upd H p (.dK (mergeK [] kvs))) p (iv s) o ∧
        ((m.two s = none ∧ o.getD .non = .non) ∨ ∃ a b t, m.two s = some (a, b) ∧ o.getD .non = .ref t ∧ SqT K (upd H p (.dK (mergeK [] kvs))) t [iv a, iv b]) := by
  obtain ⟨ps, h1, h2⟩ := h
  obtain ⟨ts, l, k1, k2⟩ := parts_kvs h2
  refine ⟨ps, kvP ts m.pa, h1, k1, fun p hp => ?_⟩
  have em : mergeK [] (kvP ts m.pa) = kvP ts m.pa := merge_new _ [] (kvP_nodup l ok.asc) fun _ _ => rfl
  rw [em]
  have e1 : upd H p (.dK (kvP ts m.pa)) p = some (.dK (kvP ts m.pa)) := upd_same
  refine ⟨.inl ⟨_, .inl e1⟩, _, DGet.k (k := Sum.inl (s : Int)) e1, ?_⟩
  rcases valV_kvP ts m.pa s l with ⟨z1, z2⟩ | ⟨i, q, t, z1, z2, z3, z4, z5⟩
  · rw [z2]
    exact .inl ⟨z1, rfl⟩
  · rw [z5]
    exact .inr ⟨q.2.1, q.2.2, t, z4, rfl, same_t (same_new hp) (k2 i q t z1 z2)⟩
end
end Des
end T_D2
section T_D3
set_option linter.all false
set_option maxRecDepth 100000
set_option maxHeartbeats 2000000
namespace Des
open PySem PySem.Spec PyProof.Rows L2
open C8 (Cal Met Mak pe_c pe_mk pe_mt pe_mt0)
open StX (pa_star)
/-! ### comprehensions that only read -/
section
variable {K : PySem.W.Frag} {a : Addr} {xs : List V} {g : TG} {tt : TT} {te : TE} {vs : List Nat} {σ : L2.St} {H1 : Hp} {D : Addr} {Qd : Hp → Prop} {β : Type} {l : List β} {Rl : V → β → Prop}
theorem take_fm {f : β → Option V} {i : Nat} {b : β} (h : l[i]? = some b) : (l.take (i + 1)).filterMap f = (l.take i).filterMap f ++ (f b).toList := by
  rw [List.take_add_one, h, List.filterMap_append]
  cases e : f b <;> simp [e]
/-- the new list's items -/
def FmP (l : List β) (f : β → Option V) (H1 : Hp) (D : Addr) (i : Nat) (H : Hp) : Prop := Same H1 H ∧ H D = some (.lst ((l.take i).filterMap f))
theorem fm_step {f : β → Option V} {i : Nat} {x : V} {b : β} {H : Hp} (hD : H1 D = none) (hz : l.length < sizeLine) (hb : l[i]? = some b) (p : FmP l f H1 D i H)
    (hs : ∀ R : Bool → V → Hp → Prop, (f b = none → ∀ H', Same H H' → R false .non H') → (∀ y, f b = some y → ∀ H', Same H H' → R true y H') →
      g x (wipe σ vs) H fun σ2 H2 => wipe σ2 vs = wipe σ vs ∧ tt σ2 H2 fun c H3 => if c = true then te σ2 H3 (R true) else R false .non H3) :
    g x (wipe σ vs) H fun σ2 H2 => wipe σ2 vs = wipe σ vs ∧ tt σ2 H2 fun c H3 => if c = true then te σ2 H3 fun y H4 => ∃ acc, H4 D = some (.lst acc) ∧ acc.length < sizeLine ∧ FmP l f H1 D (i + 1) (upd H4 D (.lst (acc ++ [y]))) else FmP l f H1 D (i + 1) H3 := by
  refine hs (fun c y H4 => match c with
    | true => ∃ acc, H4 D = some (.lst acc) ∧ acc.length < sizeLine ∧ FmP l f H1 D (i + 1) (upd H4 D (.lst (acc ++ [y])))
    | false => FmP l f H1 D (i + 1) H4) (fun e H' sm => ?_) (fun y e H' sm => ?_)
  · refine ⟨fun b o z => sm b o (p.1 b o z), ?_⟩
    rw [take_fm hb, e]
    simpa using sm _ _ p.2
  · refine ⟨_, sm _ _ p.2, ?_, fun b o z => ?_, ?_⟩
    · have h1 := List.length_filterMap_le f (l.take i)
      have h2 := List.length_take_le i l
      have h3 : (l.take i).length ≤ l.length := List.length_take_le' i l
      omega
    · rw [upd_ne (ne_of_none z hD)]
      exact sm b o (p.1 b o z)
    · rw [take_fm hb, e]
      exact upd_same
theorem paired_at {β γ : Type} {F : γ → β → Prop} : ∀ {l : List γ} {l' : List β} {i : Nat} {x : γ}, Paired F l l' → l[i]? = some x → ∃ b, l'[i]? = some b ∧ F x b
  | _, _, _, _, .nil, h => by simp at h
  | _, _, 0, _, .cons r _, h => by simp at h; subst h; exact ⟨_, rfl, r⟩
  | _, _, i + 1, x, .cons _ t, h => by
    obtain ⟨b, e, f⟩ := paired_at (i := i) (x := x) t (by simpa using h)
    exact ⟨b, by simpa using e, f⟩
theorem lcT (h : SqT K H1 a xs) (hp : Paired Rl xs l) (hD : H1 D = none) (hz : l.length < sizeLine) (f : β → Option V)
    (hs : ∀ x b H, b ∈ l → Rl x b → Same H1 H → ∀ R : Bool → V → Hp → Prop, (f b = none → ∀ H', Same H H' → R false .non H') → (∀ y, f b = some y → ∀ H', Same H H' → R true y H') →
      g x (wipe σ vs) H fun σ2 H2 => wipe σ2 vs = wipe σ vs ∧ tt σ2 H2 fun c H3 => if c = true then te σ2 H3 (R true) else R false .non H3)
    (hd : ∀ H', Same H1 H' → H' D = some (.lst (l.filterMap f)) → Qd H') :
    ∃ W : Nat → Nat → Hp → Prop, (∃ m, W 0 m (upd H1 D (.lst []))) ∧ ∀ i m H, W i m H →
      ((Itt K a).stop i H ∧ Qd H) ∨ ((Itt K a).go i H ∧ ∃ Nx : Hp → Prop, (∀ H', Nx H' → ∃ m', m' < m ∧ W (i + 1) m' H') ∧ ∀ x H', (Itt K a).yld i H x H' → g x (wipe σ vs) H' fun σ2 H2 => wipe σ2 vs = wipe σ vs ∧ tt σ2 H2 fun b H3 =>
        if b = true then te σ2 H3 fun y H4 => ∃ acc, H4 D = some (.lst acc) ∧ acc.length < sizeLine ∧ Nx (upd H4 D (.lst (acc ++ [y]))) else Nx H3) := by
  have hl := paired_len hp
  refine lc_tup (FmP l f H1 D) ⟨same_new hD, by simpa using upd_same⟩ (fun i H _ p => same_t p.1 h) (fun i x H hx p => ?_) (fun H p => hd H p.1 ?_)
  · obtain ⟨b, e, r⟩ := paired_at hp hx
    exact fm_step hD hz e p (hs x b H (List.mem_of_getElem? e) r p.1)
  · have := p.2
    rwa [hl, List.take_length] at this
theorem lcL (h : SqL K H1 a xs) (hp : Paired Rl xs l) (hD : H1 D = none) (hz : l.length < sizeLine) (f : β → Option V)
    (hs : ∀ x b H, b ∈ l → Rl x b → Same H1 H → ∀ R : Bool → V → Hp → Prop, (f b = none → ∀ H', Same H H' → R false .non H') → (∀ y, f b = some y → ∀ H', Same H H' → R true y H') →
      g x (wipe σ vs) H fun σ2 H2 => wipe σ2 vs = wipe σ vs ∧ tt σ2 H2 fun c H3 => if c = true then te σ2 H3 (R true) else R false .non H3)
    (hd : ∀ H', Same H1 H' → H' D = some (.lst (l.filterMap f)) → Qd H') :
    ∃ W : Nat → Nat → Hp → Prop, (∃ m, W 0 m (upd H1 D (.lst []))) ∧ ∀ i m H, W i m H →
      ((Itl K a).stop i H ∧ Qd H) ∨ ((Itl K a).go i H ∧ ∃ Nx : Hp → Prop, (∀ H', Nx H' → ∃ m', m' < m ∧ W (i + 1) m' H') ∧ ∀ x H', (Itl K a).yld i H x H' → g x (wipe σ vs) H' fun σ2 H2 => wipe σ2 vs = wipe σ vs ∧ tt σ2 H2 fun b H3 =>
        if b = true then te σ2 H3 fun y H4 => ∃ acc, H4 D = some (.lst acc) ∧ acc.length < sizeLine ∧ Nx (upd H4 D (.lst (acc ++ [y]))) else Nx H3) := by
  have hl := paired_len hp
  refine lc_list (FmP l f H1 D) ⟨same_new hD, by simpa using upd_same⟩ (fun i H _ p => Evl.ex_l p.1 h) (fun i x H hx p => ?_) (fun H p => hd H p.1 ?_)
  · obtain ⟨b, e, r⟩ := paired_at hp hx
    exact fm_step hD hz e p (hs x b H (List.mem_of_getElem? e) r p.1)
  · have := p.2
    rwa [hl, List.take_length] at this
theorem paired_map {β : Type} {v : β → V} {F : V → β → Prop} : ∀ {l : List β}, (∀ b ∈ l, F (v b) b) → Paired F (l.map v) l
  | [], _ => .nil
  | b :: l, h => .cons (h b (by simp)) (paired_map fun x hx => h x (by simp [hx]))
theorem paired_mapl {β γ : Type} {v : γ → V} {F : γ → β → Prop} {G : V → β → Prop} : ∀ {l : List γ} {l' : List β}, Paired F l l' → (∀ x b, F x b → G (v x) b) → Paired G (l.map v) l'
  | _, _, .nil, _ => .nil
  | _, _, .cons r t, h => .cons (h _ _ r) (paired_mapl t h)
end
section
variable {P : Program} {w : World} {K : PySem.W.Frag} {mg : Str → Option Value} {base : Heap}
theorem iv_app (a b : List Nat) : (a ++ b).map iv = a.map iv ++ b.map iv := List.map_append
theorem line_of {n : Nat} (h : n ≤ 100000) : n ≤ sizeLine := Evl.sz_of h
theorem line_lt {n : Nat} (h : n < 100000) : n < sizeLine := Evl.sz_of h
theorem new_t {H : Hp} {p : Addr} {xs : List V} : SqT K (upd H p (.tup xs)) p xs := .inl (.inl upd_same)
theorem sqL {H : Hp} {a : Addr} {xs : List V} (h : H a = some (.lst xs)) : SqL K H a xs := .inl (.inl h)
theorem asc_len {α : Type} {n : Nat} : ∀ {k : Nat} {l : List (Nat × α)}, l.Pairwise (fun a b => a.1 < b.1) → (∀ p ∈ l, k ≤ p.1 ∧ p.1 < n) → l.length + k ≤ max n k
  | k, [], _, _ => by simp; omega
  | k, p :: l, hp, h => by
    rw [List.pairwise_cons] at hp
    have h0 := h p (by simp)
    have := asc_len (k := k + 1) hp.2 fun q hq => ⟨by have := hp.1 q hq; omega, (h q (by simp [hq])).2⟩
    rw [List.length_cons]
    omega
theorem pa_len {m : Mo} (ok : m.Ok) : m.pa.length ≤ 6 := by
  have := asc_len (k := 0) (n := m.n) ok.asc fun p hp => ⟨Nat.zero_le _, (ok.par p hp).1⟩
  have h6 := ok.n6
  unfold Mo.n at this
  omega
/-! ### Table.bare: of a sign below j -/
def spBare (K : PySem.W.Frag) (j : Nat) : Sp := fun vs H Q _ => ∃ tb m s, vs = [.ref tb, iv s] ∧ TabAt K H tb m ∧ m.Ok ∧ s < m.n ∧ s < j ∧ ∀ a H', Same H H' → TI K H' a (m.bare s) → Q (.ref a) H'
theorem k_bare (T : Tx K mg) : ∀ j : Nat, Met P w K mg base (j + 3) (He.ga K "Table") "bare" (spBare K j) []
  | 0 => by
    obtain ⟨fd, F⟩ := T.F_Table_bare
    refine metOf F (bTable_bare F) T.cl_Table T.m_Table_bare scTable_bare (fun vs H Q E h => ?_) (fun cdv A outer s H vs Q E hr h => ?_)
    · obtain ⟨tb, m, s, rfl, _⟩ := h
      rfl
    · obtain ⟨tb, m, s, rfl, _, _, _, h, _⟩ := h
      omega
  | j + 1 => by
    obtain ⟨fd, F⟩ := T.F_Table_bare
    refine metOf F (bTable_bare F) T.cl_Table T.m_Table_bare scTable_bare (fun vs H Q E h => ?_) (fun cdv A outer s H vs Q E hr h => ?_)
    · obtain ⟨tb, m, s, rfl, _⟩ := h
      rfl
    · obtain ⟨tb, m, sg, rfl, ht, ok, hn, hj, q⟩ := h
      obtain ⟨dx, c, r, s', h1, h2, h3, h4⟩ := ht.ex
      have hu := hu_of hr
      refine ⟨_, pss_cons (ps_expr (pe_mt (k_check0 T) hr (by omega) (pv 0) (pa_cons (pv 1) pa_nil)))
        (pss_cons (ps_set (i := 2) scTable_bare.nd rfl (Or.inl rfl) (pe_dget1 hu (pe_callTy (call_dictT rfl) rfl T.n_dict boot_dict_ (pa_cons (pe_fld (pv 0) rfl) pa_nil)) (pv 1) ⟨rfl, rfl, rfl, rfl⟩))
        (pss_one (ps_ret (pe_ifExp (pt_cmpR op_isN (pv 2) pe_non (nomark _)) (pe_tup (pa_cons (pv 1) pa_nil))
          (pe_tup (pa_star (pe_mt (k_bare T j) hr (Nat.le_refl _) (pv 0) (pa_cons (pe_ix ix_tup (pv 2) pe_int (fun _ _ => rfl)) pa_nil))
            (pa_star (pe_mt (k_bare T j) hr (Nat.le_refl _) (pv 0) (pa_cons (pe_ix ix_tup (pv 2) pe_int (fun _ _ => rfl)) pa_nil)) pa_nil))))))), ?_⟩
      refine ⟨_, rfl, tb, dx, _, rfl, h1, tF_no _ _ _ (by decide +kernel) (by decide +kernel) (by decide +kernel), _, rfl, tb, m, sg, rfl, ht, hn, ?_⟩
      refine ⟨_, rfl, tb, _, dx, _, _, rfl, h1, T.cl_Table, T.na_Table_rows, tF_rows _ _ _, ?_⟩
      obtain ⟨ps, kvs, z1, z2, z3⟩ := get_parts sg ok h3
      refine ⟨r, ps, kvs, rfl, z1, z2, fun p hp => ?_⟩
      obtain ⟨d1, o, d2, d3⟩ := z3 p hp
      refine ⟨p, rfl, d1, _, rfl, o, d2, ?_⟩
      have sm : Same H (upd H p (.dK (mergeK [] kvs))) := same_new hp
      generalize upd H p (.dK (mergeK [] kvs)) = H' at sm d3 ⊢
      have nb : ∀ {H' : Hp}, Same H H' → H' tb = some (.ins (He.ga K "Table") dx (tF c r s')) := fun e => e _ _ h1
      rcases d3 with ⟨e, ev⟩ | ⟨a, b, t, e, ev, hT⟩
      · rw [ev]
        refine ⟨_, rfl, rfl, _, rfl, iteT ?_⟩
        refine ⟨_, rfl, line_of (by simp), fun p2 hp2 => q _ _ (sm.trans (same_new hp2)) ?_⟩
        rw [bare_none e]
        exact new_t
      · rw [ev]
        have z := ok.two m e
        refine ⟨_, rfl, rfl, _, rfl, iteF ?_⟩
        refine ⟨_, rfl, tb, dx, _, rfl, nb sm, tF_no _ _ _ (by decide +kernel) (by decide +kernel) (by decide +kernel), _, rfl, t, _, 0, _, rfl, rfl, hT, rfl, tb, m, a, rfl, ht.same sm, ok, by omega, by omega, fun u Hu smu hu1 => ?_⟩
        refine ⟨u, _, rfl, .inl hu1, ?_⟩
        have sm2 := sm.trans smu
        refine ⟨_, rfl, tb, dx, _, rfl, nb sm2, tF_no _ _ _ (by decide +kernel) (by decide +kernel) (by decide +kernel), _, rfl, t, _, 1, _, rfl, rfl, same_t smu hT, rfl, tb, m, b, rfl, ht.same sm2, ok, by omega, by omega, fun y Hy smy hy1 => ?_⟩
        refine ⟨y, _, rfl, .inl hy1, ?_, fun p2 hp2 => q _ _ ((sm2.trans smy).trans (same_new hp2)) ?_⟩
        · have l1 := bare_len64 ok (s := a) (by omega)
          have l2 := bare_len64 ok (s := b) (by omega)
          exact line_of (by simp only [List.length_append, List.length_map, List.length_nil]; omega)
        · rw [bare_some ok e, List.append_nil, ← iv_app]
          exact new_t
/-! ### what two signs are joined to -/
def ov : Option Nat → V
  | none => .non
  | some z => iv z
theorem filter_fm {α : Type} (p : α → Bool) (f : α → Nat) : ∀ l : List α, l.filterMap (fun q => if p q = true then some (iv (f q)) else none) = ((l.filter p).map f).map iv
  | [] => rfl
  | q :: l => by
    cases e : p q <;> simp [e, filter_fm p f l]
theorem inV_ints {s : Nat} : ∀ l : List Nat, inV (iv s) (l.map iv) = l.contains s
  | [] => rfl
  | x :: l => by
    show (eqV (iv x) (iv s) || inV (iv s) (l.map iv)) = _
    rw [inV_ints l, List.contains_cons]
    congr 1
    show ((x : Int) == (s : Int)) = (s == x)
    rw [Bool.eq_iff_iff, beq_iff_eq, beq_iff_eq]
    omega
theorem flat_ints : ∀ l : List Nat, (l.map iv).all flatV = true
  | [] => rfl
  | _ :: l => by rw [List.map_cons, List.all_cons, flat_ints l]; rfl
def dL (ns : List Nat) : PyData := .list (ns.map dI)
theorem eqv_list (ns ms : List Nat) : PyData.eqv (dL ns) (dL ms) = decide (ns = ms) := by
  unfold dL
  simp only [PyData.eqv]
  exact eqv_ints ns ms
theorem shaped_list (ns : List Nat) : SeqAt.shaped (dL ns) = true := by
  unfold SeqAt.shaped dL
  simp only [PyData.canLay0, PyData.depth, lay_ints, depth_ints]
  decide
def prI (a b : Nat) (m : Mo) (q : Nat × Nat × Nat) : Bool := q.2 == (a, b) && !m.sh.contains q.1
def prF (a b : Nat) (m : Mo) (q : Nat × Nat × Nat) : Option V := if prI a b m q = true then some (iv q.1) else none
theorem pr_two (a b : Nat) (q : Nat × Nat × Nat) : decide ([q.2.1, q.2.2] = [a, b]) = (q.2 == (a, b)) := by
  obtain ⟨x, y, z⟩ := q
  rw [Bool.eq_iff_iff, decide_eq_true_eq, beq_iff_eq]
  simp
def spJoin (K : PySem.W.Frag) : Sp := fun vs H Q _ => ∃ tb m a b, vs = [.ref tb, iv a, iv b] ∧ TabAt K H tb m ∧ m.Ok ∧ a < m.n ∧ b < m.n ∧ ∀ H', Same H H' → Q (ov (m.pair0 a b)) H'
theorem k_join (T : Tx K mg) : Met P w K mg base 3 (He.ga K "Table") "joined" (spJoin K) [] := by
  obtain ⟨fd, F⟩ := T.F_Table_joined
  refine metOf F (bTable_joined F) T.cl_Table T.m_Table_joined scTable_joined (fun vs H Q E h => ?_) (fun cdv A outer s H vs Q E hr h => ?_)
  · obtain ⟨tb, m, a, b, rfl, _⟩ := h
    rfl
  · obtain ⟨tb, m, a, b, rfl, ht, ok, ha, hb, q⟩ := h
    obtain ⟨dx, c, r, s', h1, h2, h3, h4⟩ := ht.ex
    obtain ⟨ps, hz, hps⟩ := h3
    have hu := hr.units
    refine ⟨_, pss_cons (ps_expr (pe_mt (k_check0 T) hr (by omega) (pv 0) (pa_cons (pv 1) pa_nil)))
      (pss_cons (ps_expr (pe_mt (k_check0 T) hr (by omega) (pv 0) (pa_cons (pv 2) pa_nil)))
      (pss_cons (ps_setLc (i := 3) (own := [("sign", 4), ("two", 5)]) (g := gTup K 2 (gCons (gName 4) (gCons (gName 5) gNil))) (tt := tAnd (tTest (tOp (rEqD K) (tVar 5) (tTup (tCons (tVar 1) (tCons (tVar 2) tNil))))) (tTest (tOp (rIn K true) (tVar 4) (tFld K (tVar 0) "closed")))) (te := tVar 4) (by rfl) scTable_joined.nd rfl rfl (sw_true rfl rfl rfl (by decide +kernel))
          (pi_tup (pe_fld (pv 0) rfl)) (blkOk_by (own := [("sign", 4), ("two", 5)]) (N := ["self", "one", "other", "some", "sign", "two"]) (sc := defScope sTable_joined) (by decide +kernel))
          (fun _ _ _ _ _ => pg_tup rfl (pgs_cons (pg_name (i := 4) scTable_joined.nd rfl (Or.inl rfl)) (pgs_cons (pg_name (i := 5) scTable_joined.nd rfl (Or.inl rfl)) pgs_nil)))
          (fun _ _ _ _ _ => pts_one (PW.pt (pw_and (pt_cmpR (op_eqD hu) (pv 5) (pe_tup (pa_cons (pv 1) (pa_cons (pv 2) pa_nil))) (nomark _)) (pw_and1 (pt_cmpR op_notIn_seq (pv 4) (pe_fld (pv 0) rfl) rfl)))))
          (fun _ _ _ _ _ => pv 4))
      (pss_one (ps_ret (pe_ifExp (pt_cmpR (op_neD hu) (pv 3) (pe_lst pa_nil) (nomark _)) (pe_ix ix_list (pv 3) pe_int (fun _ _ => rfl)) pe_non))))), ?_⟩
    have nt : ∀ {x : Str}, (x == ("classes" : Str)) = false → (x == ("rows" : Str)) = false → (x == ("closed" : Str)) = false → (tF c r s').lookup x = none := fun a b d => tF_no _ _ _ a b d
    refine ⟨_, rfl, tb, dx, _, rfl, h1, nt (by decide +kernel) (by decide +kernel) (by decide +kernel), _, rfl, tb, m, a, rfl, ht, ha, ?_⟩
    refine ⟨_, rfl, tb, dx, _, rfl, h1, nt (by decide +kernel) (by decide +kernel) (by decide +kernel), _, rfl, tb, m, b, rfl, ht, hb, ?_⟩
    refine ⟨_, rfl, tb, _, dx, _, _, rfl, h1, T.cl_Table, T.na_Table_rows, tF_rows _ _ _, r, rfl, ⟨_, hz.t⟩, fun D hD => ?_⟩
    refine lcT (l := m.pa) (Rl := fun v q => ∃ p, v = V.ref p ∧ PartR K H p q) hz.t (paired_mapl hps fun x q z => ⟨x, rfl, z⟩) hD (line_lt (by have := pa_len ok; omega)) (prF a b m) (fun x q H2 _ hx sm R hN hS => ?_) (fun H2 sm hL => ?_)
    · obtain ⟨p, rfl, t, ht1, ht2⟩ := hx
      refine ⟨p, _, rfl, same_t sm ht1, rfl, _, _, rfl, _, _, rfl, rfl, rfl, ?_⟩
      refine ⟨_, rfl, _, rfl, _, rfl, line_of (by simp), fun p3 hp3 => ⟨dT [q.2.1, q.2.2], dT [a, b], dp_text (same_t (sm.trans (same_new hp3)) (tupT ht2)), dp_text new_t, shaped_text _, shaped_text _, _, rfl, ?_⟩⟩
      rw [eqv_text, pr_two]
      have sm3 := sm.trans (same_new (o := .tup [iv a, iv b]) hp3)
      cases e : (q.2 == (a, b)) with
      | false => exact iteF (iteF (hN (by simp [prF, prI, e]) _ (same_new hp3)))
      | true =>
        refine iteT ⟨_, rfl, _, rfl, tb, _, dx, _, _, rfl, sm3 _ _ h1, T.cl_Table, T.na_Table_closed, tF_closed _ _ _, s', _, rfl, .inr (same_t sm3 h4), rfl, flat_ints _, _, rfl, ?_⟩
        rw [if_pos rfl, inV_ints]
        cases e2 : m.sh.contains q.1 with
        | false => exact iteT ⟨_, rfl, hS _ (by simp only [prF, prI, e, e2]; rfl) _ (same_new hp3)⟩
        | true => exact iteF (hN (by simp only [prF, prI, e, e2]; rfl) _ (same_new hp3))
    · rw [show List.filterMap (prF a b m) m.pa = ((m.pa.filter (prI a b m)).map (·.1)).map iv from filter_fm _ _ _] at hL
      have ep : m.pair0 a b = ((m.pa.filter (prI a b m)).map (·.1)).head? := rfl
      generalize ((m.pa.filter (prI a b m)).map (·.1)) = L at hL ep
      refine ⟨_, rfl, line_of (by simp), fun p4 hp4 => ⟨dL L, dL [], .lst (sqL (same_new hp4 _ _ hL)) (dp_ints _), .lst (sqL upd_same) .nil, shaped_list _, shaped_list _, _, rfl, ?_⟩⟩
      have sm4 := sm.trans (same_new (o := .lst []) hp4)
      rw [eqv_list]
      cases L with
      | nil =>
        refine iteF ?_
        have := q _ sm4
        rw [ep] at this
        exact this
      | cons x L =>
        refine iteT ⟨_, rfl, D, _, 0, _, rfl, rfl, sqL (same_new hp4 _ _ hL), atI_nat (j := 0) (v := iv x) rfl, ?_⟩
        have := q _ sm4
        rw [ep] at this
        exact this
/-! ### the law's own -/
def spLBare (K : PySem.W.Frag) (j : Nat) : Sp := fun vs H Q _ => ∃ md m s, vs = [.ref md, iv s] ∧ ModAt K H md m ∧ m.Ok ∧ s < m.n ∧ s < j ∧ ∀ a H', Same H H' → H' a = some (.lst ((m.bare s).map iv)) → H a = none → Q (.ref a) H'
theorem k_lbare (T : Tx K mg) : ∀ j : Nat, Cal P w K mg base (j + 3) "_law_bare" (spLBare K j) []
  | 0 => by
    obtain ⟨fd, F⟩ := T.F_L_bare
    refine calOf F (bL_bare F) T.g__law_bare scL_bare (fun vs H Q E h => ?_) (fun cdv A outer s H vs Q E hr h => ?_)
    · obtain ⟨md, m, s, rfl, _⟩ := h
      rfl
    · obtain ⟨md, m, s, rfl, _, _, _, h, _⟩ := h
      omega
  | j + 1 => by
    obtain ⟨fd, F⟩ := T.F_L_bare
    refine calOf F (bL_bare F) T.g__law_bare scL_bare (fun vs H Q E h => ?_) (fun cdv A outer s H vs Q E hr h => ?_)
    · obtain ⟨md, m, s, rfl, _⟩ := h
      rfl
    · obtain ⟨md, m, sg, rfl, ht, ok, hn, hj, q⟩ := h
      obtain ⟨c, r, s', h1, h2, h3, h4⟩ := ht.ex
      have hu := hu_of hr
      refine ⟨_, pss_cons (ps_set (i := 2) scL_bare.nd rfl (Or.inl rfl) (pe_dget1 hu (pe_callTy (call_dictT rfl) rfl T.n_dict boot_dict_ (pa_cons (pe_ix ix_tup (pv 0) pe_int (fun _ _ => rfl)) pa_nil)) (pv 1) ⟨rfl, rfl, rfl, rfl⟩))
        (pss_one (ps_ret (pe_ifExp (pt_cmpR op_isN (pv 2) pe_non (nomark _)) (pe_lst (pa_cons (pv 1) pa_nil))
          (pe_op op_cat (pe_c (k_lbare T j) hr (Nat.le_refl _) rfl (pa_cons (pv 0) (pa_cons (pe_ix ix_tup (pv 2) pe_int (fun _ _ => rfl)) pa_nil)))
            (pe_c (k_lbare T j) hr (Nat.le_refl _) rfl (pa_cons (pv 0) (pa_cons (pe_ix ix_tup (pv 2) pe_int (fun _ _ => rfl)) pa_nil))))))), ?_⟩
      refine ⟨_, rfl, md, _, 1, _, rfl, rfl, h1, rfl, ?_⟩
      obtain ⟨ps, kvs, z1, z2, z3⟩ := get_parts sg ok h3
      refine ⟨r, ps, kvs, rfl, z1, z2, fun p hp => ?_⟩
      obtain ⟨d1, o, d2, d3⟩ := z3 p hp
      refine ⟨p, rfl, d1, _, rfl, o, d2, ?_⟩
      have sm : Same H (upd H p (.dK (mergeK [] kvs))) := same_new hp
      generalize upd H p (.dK (mergeK [] kvs)) = H' at sm d3 ⊢
      rcases d3 with ⟨e, ev⟩ | ⟨a, b, t, e, ev, hT⟩
      · rw [ev]
        refine ⟨_, rfl, rfl, _, rfl, iteT ?_⟩
        refine ⟨_, rfl, line_of (by simp), fun p2 hp2 => q _ _ (sm.trans (same_new hp2)) ?_ (sm.free hp2)⟩
        rw [bare_none e]
        exact upd_same
      · rw [ev]
        have z := ok.two m e
        refine ⟨_, rfl, rfl, _, rfl, iteF ?_⟩
        refine ⟨_, rfl, _, rfl, t, _, 0, _, rfl, rfl, hT, rfl, md, m, a, rfl, ht.same sm, ok, by omega, by omega, fun u Hu smu hu1 nu => ?_⟩
        have sm2 := sm.trans smu
        refine ⟨_, rfl, _, rfl, t, _, 1, _, rfl, rfl, same_t smu hT, rfl, md, m, b, rfl, ht.same sm2, ok, by omega, by omega, fun y Hy smy hy1 ny => ?_⟩
        refine ⟨u, y, _, _, rfl, rfl, smy _ _ hu1, hy1, ?_⟩
        have l1 := bare_len64 ok (s := a) (by omega)
        have l2 := bare_len64 ok (s := b) (by omega)
        refine ⟨line_of (by simp only [List.length_map]; omega), fun p2 hp2 => q _ _ ((sm2.trans smy).trans (same_new hp2)) ?_ ((sm2.trans smy).free hp2)⟩
        rw [bare_some ok e, iv_app]
        exact upd_same
def spLPair (K : PySem.W.Frag) : Sp := fun vs H Q _ => ∃ md m a b, vs = [.ref md, iv a, iv b] ∧ ModAt K H md m ∧ m.Ok ∧ a < m.n ∧ b < m.n ∧ ∀ H', Same H H' → Q (ov (m.pair a b)) H'
theorem k_lpair (T : Tx K mg) : Cal P w K mg base 3 "_law_pair" (spLPair K) [] := by
  obtain ⟨fd, F⟩ := T.F_L_pair
  refine calOf F (bL_pair F) T.g__law_pair scL_pair (fun vs H Q E h => ?_) (fun cdv A outer s H vs Q E hr h => ?_)
  · obtain ⟨tb, m, a, b, rfl, _⟩ := h
    rfl
  · obtain ⟨md, m, a, b, rfl, ht, ok, ha, hb, q⟩ := h
    obtain ⟨c, r, s', h1, h2, h3, h4⟩ := ht.ex
    obtain ⟨ps, hz, hps⟩ := h3
    have hu := hr.units
    refine ⟨_, pss_cons (ps_setLc (i := 3) (own := [("_law_sign", 4), ("_law_two", 5)]) (g := gTup K 2 (gCons (gName 4) (gCons (gName 5) gNil)))
          (tt := tAnd (tTest (tOp (rEqD K) (tVar 5) (tTup (tCons (tVar 1) (tCons (tVar 2) tNil))))) (tTest (tOp (rIn K true) (tVar 4) (tOp (rIxT K) (tVar 0) (tC (.int 2)))))) (te := tVar 4) (by rfl) scL_pair.nd rfl rfl (sw_true rfl rfl rfl (by decide +kernel))
          (pi_tup (pe_ix ix_tup (pv 0) pe_int (fun _ _ => rfl))) (blkOk_by (own := [("_law_sign", 4), ("_law_two", 5)]) (N := ["_law_model", "_law_one", "_law_other", "_law_some", "_law_sign", "_law_two"]) (sc := defScope sL_pair) (by decide +kernel))
          (fun _ _ _ _ _ => pg_tup rfl (pgs_cons (pg_name (i := 4) scL_pair.nd rfl (Or.inl rfl)) (pgs_cons (pg_name (i := 5) scL_pair.nd rfl (Or.inl rfl)) pgs_nil)))
          (fun _ _ _ _ _ => pts_one (PW.pt (pw_and (pt_cmpR (op_eqD hu) (pv 5) (pe_tup (pa_cons (pv 1) (pa_cons (pv 2) pa_nil))) (nomark _)) (pw_and1 (pt_cmpR op_notIn_seq (pv 4) (pe_ix ix_tup (pv 0) pe_int (fun _ _ => rfl)) rfl)))))
          (fun _ _ _ _ _ => pv 4))
      (pss_one (ps_ret (pe_ifExp (PW.pt (pw_and (pt_cmpR (op_neD hu) (pv 3) (pe_lst pa_nil) (nomark _)) (pw_and1 (pt_cmpR op_eq (pe_ix ix_tup (pv 0) pe_int (fun _ _ => rfl)) pe_str (nomark _)))))
        (pe_ix ix_list (pv 3) pe_int (fun _ _ => rfl)) pe_non))), ?_⟩
    refine ⟨_, rfl, md, _, 1, _, rfl, rfl, h1, rfl, r, rfl, ⟨_, hz.t⟩, fun D hD => ?_⟩
    refine lcT (l := m.pa) (Rl := fun v q => ∃ p, v = V.ref p ∧ PartR K H p q) hz.t (paired_mapl hps fun x q z => ⟨x, rfl, z⟩) hD (line_lt (by have := pa_len ok; omega)) (prF a b m) (fun x q H2 _ hx sm R hN hS => ?_) (fun H2 sm hL => ?_)
    · obtain ⟨p, rfl, t, ht1, ht2⟩ := hx
      refine ⟨p, _, rfl, same_t sm ht1, rfl, _, _, rfl, _, _, rfl, rfl, rfl, ?_⟩
      refine ⟨_, rfl, _, rfl, _, rfl, line_of (by simp), fun p3 hp3 => ⟨dT [q.2.1, q.2.2], dT [a, b], dp_text (same_t (sm.trans (same_new hp3)) (tupT ht2)), dp_text new_t, shaped_text _, shaped_text _, _, rfl, ?_⟩⟩
      rw [eqv_text, pr_two]
      have sm3 := sm.trans (same_new (o := .tup [iv a, iv b]) hp3)
      cases e : (q.2 == (a, b)) with
      | false => exact iteF (iteF (hN (by simp [prF, prI, e]) _ (same_new hp3)))
      | true =>
        refine iteT ⟨_, rfl, _, rfl, md, _, 2, _, rfl, rfl, same_t sm3 h1, rfl, s', _, rfl, .inr (same_t sm3 h4), rfl, flat_ints _, _, rfl, ?_⟩
        rw [if_pos rfl, inV_ints]
        cases e2 : m.sh.contains q.1 with
        | false => exact iteT ⟨_, rfl, hS _ (by simp only [prF, prI, e, e2]; rfl) _ (same_new hp3)⟩
        | true => exact iteF (hN (by simp only [prF, prI, e, e2]; rfl) _ (same_new hp3))
    · rw [show List.filterMap (prF a b m) m.pa = ((m.pa.filter (prI a b m)).map (·.1)).map iv from filter_fm _ _ _] at hL
      have ep : m.pair a b = if m.jn then ((m.pa.filter (prI a b m)).map (·.1)).head? else none := rfl
      generalize ((m.pa.filter (prI a b m)).map (·.1)) = L at hL ep
      refine ⟨_, rfl, line_of (by simp), fun p4 hp4 => ⟨dL L, dL [], .lst (sqL (same_new hp4 _ _ hL)) (dp_ints _), .lst (sqL upd_same) .nil, shaped_list _, shaped_list _, _, rfl, ?_⟩⟩
      have sm4 := sm.trans (same_new (o := .lst []) hp4)
      have q := q _ sm4
      rw [ep] at q
      rw [eqv_list]
      cases L with
      | nil =>
        refine iteF (iteF ?_)
        cases ej : m.jn <;> rw [ej] at q <;> exact q
      | cons x L =>
        refine iteT ⟨_, rfl, md, _, 3, _, rfl, rfl, same_t sm4 h1, rfl, rfl, _, rfl, ?_⟩
        cases ej : m.jn with
        | true =>
          rw [ej] at q
          rw [show wy m = "joined" by unfold wy; rw [ej]; rfl]
          refine iteT ⟨_, rfl, D, _, 0, _, rfl, rfl, sqL (same_new hp4 _ _ hL), atI_nat (j := 0) (v := iv x) rfl, ?_⟩
          exact q
        | false =>
          rw [ej] at q
          rw [show wy m = "apart" by unfold wy; rw [ej]; rfl]
          refine iteF ?_
          exact q
end
end Des
end T_D3
section T_D4
set_option linter.all false
set_option maxRecDepth 100000
set_option maxHeartbeats 2000000
namespace Des
open PySem PySem.Spec PyProof.Rows L2
open C8 (Cal Met Mak pe_c pe_mk pe_mt pe_mt0)
open StX (pa_star)
/-! ### loops over texts -/
section
variable {K : PySem.W.Frag} {a : Addr} {ns : List Nat} {g : TG} {tb : TS} {D : Ends} {σ : L2.St} {H : Hp}
theorem cut_at {α : Type} {l : List α} {i : Nat} {x : α} (h : l[i]? = some x) : l = l.take i ++ x :: l.drop (i + 1) ∧ l.take (i + 1) = l.take i ++ [x] := by
  obtain ⟨hi, e⟩ := List.getElem?_eq_some_iff.mp h
  constructor
  · rw [← e, ← List.drop_eq_getElem_cons hi, List.take_append_drop]
  · rw [List.take_add_one, h]; rfl
theorem map_at {α : Type} {f : α → V} {l : List α} {i : Nat} {x : V} (h : (l.map f)[i]? = some x) : ∃ n, l[i]? = some n ∧ x = f n := by
  rw [List.getElem?_map] at h
  cases e : l[i]? with
  | none => rw [e] at h; cases h
  | some n => rw [e] at h; exact ⟨n, rfl, (Option.some.inj h).symm⟩
theorem for_tN {α : Type} {f : α → V} {ns : List α} (Pv : List α → L2.St → Hp → Prop) (h0 : Pv [] σ H) (hl : ∀ p σ H, Pv p σ H → SqT K H a (ns.map f))
    (hs : ∀ p x r σ H, ns = p ++ x :: r → Pv p σ H → g (f x) σ H fun σ2 H2 => tb { D with nx := Pv (p ++ [x]), ct := Pv (p ++ [x]), bk := D.nx } σ2 H2) (hd : ∀ σ H, Pv ns σ H → D.nx σ H) :
    ∃ W : Nat → Nat → L2.St → Hp → Prop, (∃ m, W 0 m σ H) ∧ ∀ i m σ H, W i m σ H →
      ((Itt K a).stop i H ∧ D.nx σ H) ∨ ((Itt K a).go i H ∧ ∃ N : L2.St → Hp → Prop, (∀ σ' H', N σ' H' → ∃ m', m' < m ∧ W (i + 1) m' σ' H') ∧ ∀ x H', (Itt K a).yld i H x H' → g x σ H' fun σ2 H2 => tb { D with nx := N, ct := N, bk := D.nx } σ2 H2) := by
  refine for_tup (fun i => Pv (ns.take i)) h0 (fun i σ H _ p => hl _ _ _ p) (fun i x σ H e p => ?_) (fun σ H p => hd _ _ ?_)
  · obtain ⟨n, e2, rfl⟩ := map_at e
    have z := hs _ n _ σ H (cut_at e2).1 p
    rw [← (cut_at e2).2] at z
    exact z
  · rwa [List.length_map, List.take_length] at p
theorem for_lN {α : Type} {f : α → V} {ns : List α} (Pv : List α → L2.St → Hp → Prop) (h0 : Pv [] σ H) (hl : ∀ p σ H, Pv p σ H → SqL K H a (ns.map f))
    (hs : ∀ p x r σ H, ns = p ++ x :: r → Pv p σ H → g (f x) σ H fun σ2 H2 => tb { D with nx := Pv (p ++ [x]), ct := Pv (p ++ [x]), bk := D.nx } σ2 H2) (hd : ∀ σ H, Pv ns σ H → D.nx σ H) :
    ∃ W : Nat → Nat → L2.St → Hp → Prop, (∃ m, W 0 m σ H) ∧ ∀ i m σ H, W i m σ H →
      ((Itl K a).stop i H ∧ D.nx σ H) ∨ ((Itl K a).go i H ∧ ∃ N : L2.St → Hp → Prop, (∀ σ' H', N σ' H' → ∃ m', m' < m ∧ W (i + 1) m' σ' H') ∧ ∀ x H', (Itl K a).yld i H x H' → g x σ H' fun σ2 H2 => tb { D with nx := N, ct := N, bk := D.nx } σ2 H2) := by
  refine for_list (xs := ns.map f) (fun i => Pv (ns.take i)) h0 (fun i σ H _ p => hl _ _ _ p) (fun i x σ H e p => ?_) (fun σ H p => hd _ _ ?_)
  · obtain ⟨n, e2, rfl⟩ := map_at e
    have z := hs _ n _ σ H (cut_at e2).1 p
    rw [← (cut_at e2).2] at z
    exact z
  · rwa [List.length_map, List.take_length] at p
theorem for_eN {α : Type} {f : α → V} {ns : List α} (Pv : List α → L2.St → Hp → Prop) (h0 : Pv [] σ H) (hl : ∀ p σ H, Pv p σ H → SqT K H a (ns.map f))
    (hs : ∀ p x r T σ H, ns = p ++ x :: r → Pv p σ H → H T = none → g (.ref T) σ (upd H T (.tup [iv p.length, f x])) fun σ2 H2 => tb { D with nx := Pv (p ++ [x]), ct := Pv (p ++ [x]), bk := D.nx } σ2 H2) (hd : ∀ σ H, Pv ns σ H → D.nx σ H) :
    ∃ W : Nat → Nat → L2.St → Hp → Prop, (∃ m, W 0 m σ H) ∧ ∀ i m σ H, W i m σ H →
      ((IteT K a).stop i H ∧ D.nx σ H) ∨ ((IteT K a).go i H ∧ ∃ N : L2.St → Hp → Prop, (∀ σ' H', N σ' H' → ∃ m', m' < m ∧ W (i + 1) m' σ' H') ∧ ∀ x H', (IteT K a).yld i H x H' → g x σ H' fun σ2 H2 => tb { D with nx := N, ct := N, bk := D.nx } σ2 H2) := by
  refine for_enumT (xs := ns.map f) (fun i => Pv (ns.take i)) h0 (fun i σ H p => hl _ _ _ p) (fun i x T σ H e p hT => ?_) (fun σ H p => hd _ _ ?_)
  · obtain ⟨n, e2, rfl⟩ := map_at e
    have z := hs _ n _ T σ H (cut_at e2).1 p hT
    rw [← (cut_at e2).2] at z
    have hi : (ns.take i).length = i := by
      obtain ⟨hi, _⟩ := List.getElem?_eq_some_iff.mp e2
      rw [List.length_take]
      omega
    rw [hi] at z
    exact z
  · rwa [List.length_map, List.take_length] at p
end
section
variable {P : Program} {w : World} {K : PySem.W.Frag} {mg : Str → Option Value} {base : Heap}
/-! ### check_table, check_way -/
theorem kStr_str : PySem.W.kitOne K (.type "str") (.type "str") = some true := kit_ty (by decide +kernel)
def spCTab (K : PySem.W.Frag) : Sp := fun vs H Q _ => ∃ tb m, vs = [.ref tb] ∧ TabAt K H tb m ∧ Q .non H
theorem k_ctab (T : Tx K mg) : Cal P w K mg base 1 "check_table" (spCTab K) [] := by
  obtain ⟨fd, F⟩ := T.F_check_table
  refine calOf F (bcheck_table F) T.g_check_table sccheck_table (fun vs H Q E h => ?_) (fun cdv A outer s H vs Q E hr h => ?_)
  · obtain ⟨tb, m, rfl, _⟩ := h
    rfl
  · obtain ⟨tb, m, rfl, ht, q⟩ := h
    obtain ⟨dx, c, r, s', h1, _⟩ := ht.ex
    refine ⟨_, pss_one (ps_if (pt_not (pt_val (pe_callB (C8.call_isC T.ic_Table) rfl T.n_isinstance (by decide +kernel) (pa_cons (pv 0) (pa_cons (pe_glob (v := .ref (He.ga K "Table")) rfl T.g_Table rfl) pa_nil)))))
      (pss_one ps_never) pss_nil), ?_⟩
    exact ⟨_, rfl, tb, dx, _, rfl, h1, _, rfl, iteF q⟩
def spCWay (K : PySem.W.Frag) : Sp := fun vs H Q _ => ∃ tb m, vs = [.ref tb, .str (wy m)] ∧ TabAt K H tb m ∧ Q .non H
theorem way_in (m : Mo) : inV (.str (wy m)) [.str "apart", .str "joined"] = true := by
  unfold wy
  cases m.jn <;> decide +kernel
theorem k_cway (T : Tx K mg) : Cal P w K mg base 2 "check_way" (spCWay K) [] := by
  obtain ⟨fd, F⟩ := T.F_check_way
  refine calOf F (bcheck_way F) T.g_check_way sccheck_way (fun vs H Q E h => ?_) (fun cdv A outer s H vs Q E hr h => ?_)
  · obtain ⟨tb, m, rfl, _⟩ := h
    rfl
  · obtain ⟨tb, m, rfl, ht, q⟩ := h
    refine ⟨_, pss_cons (ps_expr (pe_c (k_ctab T) hr (by omega) rfl (pa_cons (pv 0) pa_nil)))
      (pss_one (ps_if (PW.pt (pw_or (pt_not (pt_val (pe_callB call_isi rfl T.n_isinstance (by decide +kernel) (pa_cons (pv 1) (pa_cons (pe_bltn (v := .ty "str") rfl T.n_str (by decide +kernel) rfl) pa_nil)))))
          (pw_or1 (pt_cmpR op_notIn_seq (pv 1) (pe_glob (v := .ref (He.ga K "WAYS")) rfl T.g_WAYS rfl) rfl))))
        (pss_one ps_never) pss_nil)), ?_⟩
    refine ⟨_, rfl, tb, m, rfl, ht, ?_⟩
    refine ⟨_, rfl, _, _, _, _, _, rfl, .ty "str", .base (.str (wy m)), kStr_str, _, rfl, iteF ?_⟩
    refine ⟨_, rfl, He.ga K "WAYS", _, rfl, .inr (sqK T.t_WAYS), rfl, rfl, _, rfl, ?_⟩
    rw [way_in]
    exact iteF q
/-! ### wrong_at, is_tame -/
theorem k_bare6 (T : Tx K mg) : Met P w K mg base 9 (He.ga K "Table") "bare" (spBare K 6) [] := k_bare T 6
def Vt (m : Mo) (t : List Nat) : Prop := ∀ s ∈ t, s < m.n
theorem lt6 {m : Mo} (ok : m.Ok) {s : Nat} (h : s < m.n) : s < 6 := by
  have := ok.n6
  unfold Mo.n at h
  omega
theorem cl_get {m : Mo} {s : Nat} (h : s < m.n) : (m.cl.map iv)[s]? = some (iv (m.c s)) := by
  unfold Mo.n at h
  rw [List.getElem?_map, List.getElem?_eq_getElem h]
  unfold Mo.c
  simp [List.getD, h]
def spWrong (K : PySem.W.Frag) : Sp := fun vs H Q _ => ∃ tb m a t, vs = [.ref tb, .ref a] ∧ TabAt K H tb m ∧ m.Ok ∧ TI K H a t ∧ Vt m t ∧ (m.tame t = true → ∀ H', Same H H' → Q .non H') ∧ (m.tame t = false → ∀ i H', Same H H' → Q (iv i) H')
theorem runs_snoc {m : Mo} {l : List Nat} {x r : Nat} : m.runs r (l ++ [x]) = m.run (m.runs r l) x := by unfold Mo.runs; rw [List.foldl_append]; rfl
theorem tameB_snoc {m : Mo} {l : List Nat} {x r : Nat} : m.tameB r (l ++ [x]) = (m.tameB r l && decide (m.run (m.runs r l) x ≤ 2)) := by
  rw [tameB_app]
  show (_ && (decide _ && true)) = _
  rw [Bool.and_true]
theorem k_wrong (T : Tx K mg) : Cal P w K mg base 10 "wrong_at" (spWrong K) [] := by
  obtain ⟨fd, F⟩ := T.F_wrong_at
  obtain ⟨tm, hmm⟩ := T.i_MOST_MARKS
  refine calOf F (bwrong_at F) T.g_wrong_at scwrong_at (fun vs H Q E h => ?_) (fun cdv A outer s H vs Q E hr h => ?_)
  · obtain ⟨tb, m, a, t, rfl, _⟩ := h
    rfl
  · obtain ⟨tb, m, a, t, rfl, ht, ok, hT, hv, q1, q2⟩ := h
    obtain ⟨dx, c, r, s', h1, h2, h3, h4⟩ := ht.ex
    refine ⟨_, pss_cons (ps_set (i := 2) scwrong_at.nd rfl (Or.inl rfl) pe_int)
      (pss_cons (ps_for PassesOwn.never rfl (pi_enumT (by rfl) T.n_enumerate (pa_cons (pv 1) pa_nil)) (pg_tup rfl (pgs_cons (pg_name (i := 3) scwrong_at.nd rfl (Or.inl rfl)) (pgs_cons (pg_name (i := 4) scwrong_at.nd rfl (Or.inl rfl)) pgs_nil)))
        (pss_cons (ps_if (pt_not (pt_val (pe_c (k_is_number T) hr (by decide) rfl (pa_cons (pv 4) (pa_cons pe_int (pa_cons (pe_op op_sub (pe_callB (call_lenT (k_table_len T) (hr.mono (by decide))) rfl T.n_len PySem.boot_len (pa_cons (pv 0) pa_nil)) pe_int) pa_nil))))))
            (pss_one (ps_ret (pv 3))) pss_nil)
        (pss_one (ps_for PassesOwn.never rfl (pi_tup (pe_mt (k_bare6 T) hr (by decide) (pv 0) (pa_cons (pv 4) pa_nil))) (pg_name (i := 5) scwrong_at.nd rfl (Or.inl rfl))
          (pss_cons (ps_set (i := 2) scwrong_at.nd rfl (Or.inl rfl) (pe_ifExp (pt_cmpR op_gt (pe_ix ix_tup (pe_fld (pv 0) rfl) (pv 5) (fun _ _ => rfl)) pe_int (nomark _)) (pe_op op_add (pv 2) pe_int) pe_int))
          (pss_one (ps_if (pt_cmpR op_gt (pv 2) (pe_glob (v := .int 2) rfl hmm ⟨_, rfl⟩) (nomark _)) (pss_one (ps_ret (pv 3))) pss_nil)))))))
      (pss_one (ps_ret pe_non))), ?_⟩
    refine ⟨_, rfl, a, _, rfl, hT, ?_⟩
    refine for_eN (f := iv) (ns := t) (fun p σ H' => Same H H' ∧ m.tameB 0 (m.flat p) = true ∧ ∃ o3 o4 o5, σ = [some (.ref tb), some (.ref a), some (iv (m.runs 0 (m.flat p))), o3, o4, o5]) ⟨Same.refl _, rfl, _, _, _, rfl⟩
      (fun p σ H' hp => same_t hp.1 hT) (fun p x l T' σ H' ec hp hT' => ?_) (fun σ H' hp => ?_)
    · obtain ⟨sm, tm, o3, o4, o5, rfl⟩ := hp
      have sm2 := sm.trans (same_new (o := .tup [iv p.length, iv x]) hT')
      have hx : x < m.n := hv x (by rw [ec]; simp)
      refine ⟨T', _, rfl, new_t, rfl, _, _, rfl, _, _, rfl, rfl, ?_⟩
      refine ⟨_, rfl, _, rfl, tb, m, rfl, ht.same sm2, ok, _, _, rfl, rfl, _, _, _, rfl, .inr (.inr ⟨_, rfl⟩), _, rfl, ?_⟩
      rw [isNum_nat (k := (m.n : Int) - 1) (by omega)]
      refine iteF ?_
      refine ⟨_, rfl, tb, dx, _, rfl, sm2 _ _ h1, tF_no _ _ _ (by decide +kernel) (by decide +kernel) (by decide +kernel), _, rfl, tb, m, x, rfl, ht.same sm2, ok, hx, lt6 ok hx, fun u Hu smu hu1 => ⟨u, rfl, ⟨_, hu1⟩, ?_⟩⟩
      have sm3 := sm2.trans smu
      refine for_tN (f := iv) (ns := m.bare x) (fun p' σ H' => Same Hu H' ∧ m.tameB 0 (m.flat p ++ p') = true ∧ ∃ o5, σ = [some (.ref tb), some (.ref a), some (iv (m.runs 0 (m.flat p ++ p'))), some (iv p.length), some (iv x), o5]) ⟨Same.refl _, by simpa using tm, _, by simp; rfl⟩
        (fun p σ H' hp => same_t hp.1 hu1) (fun p' y r' σ H' ec' hp' => ?_) (fun σ H' hp' => ?_)
      · obtain ⟨smv, tm', o5, rfl⟩ := hp'
        have sm4 := sm3.trans smv
        have hy : y < m.n := bare_lt ok (x + 1) x (by omega) hx y (by rw [ec']; simp)
        refine ⟨_, rfl, tb, _, dx, _, _, rfl, sm4 _ _ h1, T.cl_Table, T.na_Table_classes, tF_classes _ _ _, _, rfl, c, _, (y : Nat), _, rfl, rfl, same_t sm4 h2, atI_nat (cl_get hy), _, _, rfl, rfl, _, rfl, ?_⟩
        by_cases c0 : 0 < m.c y
        · rw [show decide ((0 : Int) < ((m.c y : Nat) : Int)) = true from decide_eq_true (by omega)]
          refine iteT ⟨_, rfl, _, (1 : Int), rfl, rfl, ?_⟩
          dsimp only
          rw [show (((m.runs 0 (m.flat p ++ p') : Nat) : Int) + 1) = ((m.run (m.runs 0 (m.flat p ++ p')) y : Nat) : Int) from by unfold Mo.run; rw [if_pos c0]; rfl]
          refine ⟨_, rfl, _, _, rfl, rfl, _, rfl, ?_⟩
          by_cases cr : m.run (m.runs 0 (m.flat p ++ p')) y ≤ 2
          · rw [show decide ((2 : Int) < ((m.run (m.runs 0 (m.flat p ++ p')) y : Nat) : Int)) = false from decide_eq_false (by omega)]
            refine iteF ⟨smv, ?_, some (iv y), ?_⟩
            · rw [← List.append_assoc, tameB_snoc, tm', decide_eq_true cr]
              rfl
            · rw [← List.append_assoc, runs_snoc]
              rfl
          · rw [show decide ((2 : Int) < ((m.run (m.runs 0 (m.flat p ++ p')) y : Nat) : Int)) = true from decide_eq_true (by omega)]
            refine iteT ⟨_, rfl, q2 ?_ _ _ sm4⟩
            unfold Mo.tame
            rw [ec, flat_app, flat_cons, ec', show m.flat p ++ (p' ++ y :: r' ++ m.flat l) = ((m.flat p ++ p') ++ [y]) ++ (r' ++ m.flat l) by simp]
            rw [tameB_app, tameB_snoc, decide_eq_false cr]
            simp
        · rw [show decide ((0 : Int) < ((m.c y : Nat) : Int)) = false from decide_eq_false (by omega)]
          refine iteF ?_
          rw [show (V.int 0) = iv (m.run (m.runs 0 (m.flat p ++ p')) y) from by unfold Mo.run; rw [if_neg c0]; rfl]
          refine ⟨_, rfl, _, _, rfl, rfl, _, rfl, ?_⟩
          by_cases cr : m.run (m.runs 0 (m.flat p ++ p')) y ≤ 2
          · rw [show decide ((2 : Int) < ((m.run (m.runs 0 (m.flat p ++ p')) y : Nat) : Int)) = false from decide_eq_false (by omega)]
            refine iteF ⟨smv, ?_, some (iv y), ?_⟩
            · rw [← List.append_assoc, tameB_snoc, tm', decide_eq_true cr]
              rfl
            · rw [← List.append_assoc, runs_snoc]
              rfl
          · rw [show decide ((2 : Int) < ((m.run (m.runs 0 (m.flat p ++ p')) y : Nat) : Int)) = true from decide_eq_true (by omega)]
            refine iteT ⟨_, rfl, q2 ?_ _ _ sm4⟩
            unfold Mo.tame
            rw [ec, flat_app, flat_cons, ec', show m.flat p ++ (p' ++ y :: r' ++ m.flat l) = ((m.flat p ++ p') ++ [y]) ++ (r' ++ m.flat l) by simp]
            rw [tameB_app, tameB_snoc, decide_eq_false cr]
            simp
      · obtain ⟨smv, tm', o5, rfl⟩ := hp'
        refine ⟨sm3.trans smv, ?_, some (iv p.length), some (iv x), o5, ?_⟩
        · rw [flat_snoc]; exact tm'
        · rw [flat_snoc]
    · exact q1 hp.2.1 _ hp.1
/-- is_tame -/
def spTame (K : PySem.W.Frag) : Sp := fun vs H Q _ => ∃ tb m a t, vs = [.ref tb, .ref a] ∧ TabAt K H tb m ∧ m.Ok ∧ TI K H a t ∧ Vt m t ∧ ∀ H', Same H H' → Q (.bl (m.tame t)) H'
theorem k_tame (T : Tx K mg) : Cal P w K mg base 11 "is_tame" (spTame K) [] := by
  obtain ⟨fd, F⟩ := T.F_is_tame
  refine calOf F (bis_tame F) T.g_is_tame scis_tame (fun vs H Q E h => ?_) (fun cdv A outer s H vs Q E hr h => ?_)
  · obtain ⟨tb, m, a, t, rfl, _⟩ := h
    rfl
  · obtain ⟨tb, m, a, t, rfl, ht, ok, hT, hv, q⟩ := h
    refine ⟨_, pss_one (ps_ret (pe_cmpR op_isN (pe_c (k_wrong T) hr (by omega) rfl (pa_cons (pv 0) (pa_cons (pv 1) pa_nil))) pe_non (nomark _))), ?_⟩
    refine ⟨_, rfl, _, rfl, tb, m, a, t, rfl, ht, ok, hT, hv, fun e H' sm => ⟨rfl, ?_⟩, fun e i H' sm => ⟨rfl, ?_⟩⟩
    · have := q _ sm
      rw [e] at this
      exact this
    · have := q _ sm
      rw [e] at this
      exact this
end
end Des
end T_D4
section T_D5
set_option linter.all false
set_option maxRecDepth 100000
set_option maxHeartbeats 2000000
namespace Des
open PySem PySem.Spec PyProof.Rows L2
open C8 (Cal Met Mak pe_c pe_mk pe_mt pe_mt0)
open StX (pa_star)
section
variable {P : Program} {w : World} {K : PySem.W.Frag} {mg : Str → Option Value} {base : Heap}
/-! ### slices of tuples -/
theorem slA_pre {H : Hp} {a : Addr} {xs : List V} {n : Nat} {Q : VK} (h : SqT K H a xs) (hn : n ≤ xs.length) (q : ∀ p H', Same H H' → SqT K H' p (xs.take n) → Q (.ref p) H') : rSlA K (.ref a) none (some (n : Int)) H Q := by
  refine ⟨a, xs, rfl, h, fun e => ?_, fun _ p hp => q p _ (same_new hp) ?_⟩
  · have e2 := e.2
    rw [HT.sIx_nat] at e2
    have : n = xs.length := by omega
    refine q a H (Same.refl _) ?_
    rw [this, List.take_length]
    exact h
  · have : cutV xs none (some (n : Int)) = xs.take n := by
      unfold cutV
      rw [HT.sIx_none, HT.sIx_nat, List.drop_zero, Nat.sub_zero, Nat.min_eq_left hn]
    rw [this]
    exact .inl (.inl upd_same)
theorem slA_suf {H : Hp} {a : Addr} {xs : List V} {n : Nat} {Q : VK} (h : SqT K H a xs) (hn : n ≤ xs.length) (q : ∀ p H', Same H H' → SqT K H' p (xs.drop n) → Q (.ref p) H') : rSlA K (.ref a) (some (n : Int)) none H Q := by
  refine ⟨a, xs, rfl, h, fun e => ?_, fun _ p hp => q p _ (same_new hp) ?_⟩
  · have e2 := e.1
    rw [HT.sIx_nat] at e2
    have : n = 0 := by omega
    refine q a H (Same.refl _) ?_
    rw [this, List.drop_zero]
    exact h
  · have : cutV xs (some (n : Int)) none = xs.drop n := by
      unfold cutV
      rw [HT.sIx_none, HT.sIx_nat, Nat.min_eq_left hn]
      exact List.take_of_length_le (by rw [List.length_drop]; exact Nat.le_refl _)
    rw [this]
    exact .inl (.inl upd_same)
/-! ### with_mark -/
def spMark (K : PySem.W.Frag) : Sp := fun vs H Q _ => ∃ tb m a l x, vs = [.ref tb, .ref a, iv x] ∧ TabAt K H tb m ∧ TI K H a l ∧ Vt m l ∧ l.length ≤ 2 ∧ x < m.n ∧ ∀ u H', Same H H' → TI K H' u (m.ins l x) → Q (.ref u) H'
theorem k_mark (T : Tx K mg) : Cal P w K mg base 1 "with_mark" (spMark K) [] := by
  obtain ⟨fd, F⟩ := T.F_with_mark
  refine calOf F (bwith_mark F) T.g_with_mark scwith_mark (fun vs H Q E h => ?_) (fun cdv A outer s H vs Q E hr h => ?_)
  · obtain ⟨tb, m, a, l, x, rfl, _⟩ := h
    rfl
  · obtain ⟨tb, m, a, l, x, rfl, ht, hl, hv, hz, hx, q⟩ := h
    obtain ⟨dx, c, r, s', h1, h2, h3, h4⟩ := ht.ex
    refine ⟨_, pss_cons (ps_set (i := 3) scwith_mark.nd rfl (Or.inl rfl) (pe_callB call_len_seq rfl T.n_len PySem.boot_len (pa_cons
          (pe_lc (own := [("one", 4)]) (g := gName 4) (tt := tTest (tOp (rI0 fun i j => .bl (decide (i ≤ j))) (tOp (rIxT K) (tFld K (tVar 0) "classes") (tVar 4)) (tOp (rIxT K) (tFld K (tVar 0) "classes") (tVar 2)))) (te := tVar 4) rfl scwith_mark.nd (pi_tup (pv 1))
            (blkOk_by (N := ["table", "marks", "mark", "at", "one"]) (sc := defScope swith_mark) (by decide +kernel)) (fun _ _ _ _ _ => pg_name (i := 4) scwith_mark.nd rfl (Or.inl rfl))
            (fun _ _ _ _ _ => pts_one (pt_cmpR op_le (pe_ix ix_tup (pe_fld (pv 0) rfl) (pv 4) (fun _ _ => rfl)) (pe_ix ix_tup (pe_fld (pv 0) rfl) (pv 2) (fun _ _ => rfl)) (nomark _))) (fun _ _ _ _ _ => pv 4)) pa_nil)))
      (pss_one (ps_ret (pe_tup (pa_star (pe_slice sl_tupA (pv 1) po_none (po_some (pv 3))) (pa_cons (pv 2) (pa_star (pe_slice sl_tupA (pv 1) (po_some (pv 3)) po_none) pa_nil)))))), ?_⟩
    refine ⟨_, rfl, a, rfl, ⟨_, hl⟩, fun D hD => ?_⟩
    refine lcT (l := l) (Rl := fun v y => v = iv y) hl (paired_map fun y _ => rfl) hD (line_lt (by omega)) (fun y => if decide (m.c y ≤ m.c x) = true then some (iv y) else none) (fun v y H2 hy ev sm R hN hS => ?_) (fun H2 sm hL => ?_)
    · subst ev
      refine ⟨rfl, ?_⟩
      refine ⟨_, rfl, tb, _, dx, _, _, rfl, sm _ _ h1, T.cl_Table, T.na_Table_classes, tF_classes _ _ _, _, rfl, c, _, (y : Nat), _, rfl, rfl, same_t sm h2, atI_nat (cl_get (hv y hy)), ?_⟩
      refine ⟨_, rfl, tb, _, dx, _, _, rfl, sm _ _ h1, T.cl_Table, T.na_Table_classes, tF_classes _ _ _, _, rfl, c, _, (x : Nat), _, rfl, rfl, same_t sm h2, atI_nat (cl_get hx), _, _, rfl, rfl, _, rfl, ?_⟩
      by_cases e : m.c y ≤ m.c x
      · rw [show decide (((m.c y : Nat) : Int) ≤ ((m.c x : Nat) : Int)) = true from decide_eq_true (by omega)]
        exact iteT ⟨_, rfl, hS _ (by simp [e]) _ (Same.refl _)⟩
      · rw [show decide (((m.c y : Nat) : Int) ≤ ((m.c x : Nat) : Int)) = false from decide_eq_false (by omega)]
        exact iteF (hN (by simp [e]) _ (Same.refl _))
    · have ef := filter_fm (fun y => decide (m.c y ≤ m.c x)) id l
      rw [List.map_id] at ef
      rw [show List.filterMap (fun y => if decide (m.c y ≤ m.c x) = true then some (iv y) else none) l = _ from ef] at hL
      refine ⟨D, _, rfl, .inl (sqL hL), ?_⟩
      have ek : (List.map iv (l.filter fun y => decide (m.c y ≤ m.c x))).length = (l.filter fun y => decide (m.c y ≤ m.c x)).length := List.length_map _
      have hkl : (l.filter fun y => decide (m.c y ≤ m.c x)).length ≤ l.length := List.length_filter_le _ _
      have ei : m.ins l x = l.take (l.filter fun y => decide (m.c y ≤ m.c x)).length ++ x :: l.drop (l.filter fun y => decide (m.c y ≤ m.c x)).length := rfl
      rw [ek]
      generalize (l.filter fun y => decide (m.c y ≤ m.c x)).length = k at hkl ei ⊢
      refine ⟨_, rfl, _, rfl, (k : Int), rfl, ?_⟩
      refine slA_pre (same_t sm hl) (by rw [List.length_map]; exact hkl) fun p H3 sm3 hp => ⟨p, _, rfl, .inl hp, _, rfl, _, rfl, _, rfl, (k : Int), rfl, ?_⟩
      dsimp only [tNoPart]
      refine slA_suf (same_t (sm.trans sm3) hl) (by rw [List.length_map]; exact hkl) fun p2 H4 sm4 hp2 => ⟨p2, _, rfl, .inl hp2, ?_, fun p5 hp5 => q _ _ (((sm.trans sm3).trans sm4).trans (same_new hp5)) ?_⟩
      · refine line_of ?_
        simp only [List.length_append, List.length_cons, List.length_take, List.length_drop, List.length_map, List.length_nil]
        omega
      · rw [ei]
        have z := new_t (K := K) (H := H4) (p := p5) (xs := List.take k (List.map iv l) ++ iv x :: (List.drop k (List.map iv l) ++ []))
        simpa [TI, List.map_take, List.map_drop] using z
/-! ### held_back -/
theorem late_ok {te : TE} {σ : L2.St} {H : Hp} {c : Bool} {Qv : VK} {o : Option Nat} (k : ∀ H3, Same H H3 → Qv (ov o) H3) (h1 : c = true → (∀ H3, Same H H3 → Qv (ov o) H3) → te σ H Qv) (h2 : c = false → o = none) : if c = true then te σ H Qv else Qv .non H := by
  cases e : c with
  | true => exact iteT (h1 e k)
  | false =>
    have z := k H (Same.refl _)
    rw [h2 e] at z
    exact iteF z
theorem or_ok {tb : TE} {σ : L2.St} {H : Hp} {c b : Bool} {Qv : VK} (k : Qv (.bl b) H) (h1 : c = true → b = true) (h2 : c = false → Qv (.bl b) H → tb σ H Qv) : ∃ c', V.bl c = .bl c' ∧ if c' = true then Qv (.bl true) H else tb σ H Qv := by
  refine ⟨c, rfl, ?_⟩
  cases e : c with
  | true =>
    rw [h1 e] at k
    exact iteT k
  | false => exact iteF (h2 e k)
def StaAt (K : PySem.W.Frag) (H : Hp) (a : Addr) (st : Sta) : Prop := ∃ t, SqT K H a [ov st.1, .ref t] ∧ TI K H t st.2
theorem StaAt.same {H H' : Hp} {a : Addr} {st : Sta} (h : StaAt K H a st) (e : Same H H') : StaAt K H' a st := by
  obtain ⟨t, h1, h2⟩ := h
  exact ⟨t, same_t e h1, same_t e h2⟩
def VSta (m : Mo) (st : Sta) : Prop := (∀ x, st.1 = some x → x < m.n) ∧ Vt m st.2 ∧ st.2.length ≤ 2
def spHeld (K : PySem.W.Frag) : Sp := fun vs H Q _ => ∃ tb m a st, vs = [.ref tb, .str (wy m), .ref a] ∧ TabAt K H tb m ∧ m.Ok ∧ StaAt K H a st ∧ VSta m st ∧ ∀ u H', Same H H' → TI K H' u (m.held st) → Q (.ref u) H'
theorem wy_j {m : Mo} : decide (V.str (wy m) = V.str "joined") = m.jn := by
  unfold wy
  cases m.jn <;> decide +kernel
theorem fold_snoc {m : Mo} {x y : Nat} {p : List Nat} : (p ++ [y]).foldl m.hStep (x, []) = m.hStep (p.foldl m.hStep (x, [])) y := by rw [List.foldl_append]; rfl
theorem fold_ok {m : Mo} (ok : m.Ok) {x : Nat} (hx : x < m.n) : ∀ (k : Nat) (p : List Nat), p.length = k → Vt m p → (p.foldl m.hStep (x, [])).1 < m.n ∧ Vt m (p.foldl m.hStep (x, [])).2 ∧ (p.foldl m.hStep (x, [])).2.length ≤ p.length
  | 0, p, h, _ => by
    rw [List.length_eq_zero_iff] at h
    subst h
    exact ⟨hx, fun s hs => by simp at hs, by simp⟩
  | k + 1, p, h, hv => by
    rcases List.eq_nil_or_concat p with e | ⟨l, y, e⟩
    · subst e; cases h
    · rw [List.concat_eq_append] at e
      subst e
      rw [List.length_append] at h
      obtain ⟨z1, z2, z3⟩ := fold_ok ok hx k l (by simpa using h) fun s hs => hv s (by simp [hs])
      have hy := hv y (by simp)
      rw [fold_snoc]
      generalize l.foldl m.hStep (x, []) = st at z1 z2 z3
      have hap : Vt m (st.2 ++ [y]) := fun s hs => by
        rcases List.mem_append.mp hs with q | q
        · exact z2 s q
        · rw [List.mem_singleton] at q; subst q; exact hy
      unfold Mo.hStep
      cases e : m.pair st.1 y with
      | none => exact ⟨z1, hap, by simp; omega⟩
      | some z =>
        cases e2 : m.free st.2 y with
        | true => exact ⟨pair_lt ok e, z2, by simp; omega⟩
        | false => exact ⟨z1, hap, by simp; omega⟩
theorem k_held (T : Tx K mg) : Cal P w K mg base 4 "held_back" (spHeld K) [] := by
  obtain ⟨fd, F⟩ := T.F_held_back
  refine calOf F (bheld_back F) T.g_held_back scheld_back (fun vs H Q E h => ?_) (fun cdv A outer s H vs Q E hr h => ?_)
  · obtain ⟨tb, m, a, st, rfl, _⟩ := h
    rfl
  · obtain ⟨tb, m, a, ⟨b, ms⟩, rfl, ht, ok, ⟨t, hs1, hs2⟩, ⟨hv1, hv2, hv3⟩, q⟩ := h
    obtain ⟨dx, c, r, s', h1, h2, h3, h4⟩ := ht.ex
    have hu := hr.units
    refine ⟨_, pss_cons (ps_asg (pv 2) (pg_tup rfl (pgs_cons (pg_name (i := 3) scheld_back.nd rfl (Or.inl rfl)) (pgs_cons (pg_name (i := 4) scheld_back.nd rfl (Or.inl rfl)) pgs_nil))))
      (pss_cons (ps_if (pt_cmpR op_isN (pv 3) pe_non (nomark _)) (pss_one (ps_ret (pv 4))) pss_nil)
      (pss_cons (ps_set (i := 5) scheld_back.nd rfl (Or.inl rfl) (pe_lst pa_nil))
      (pss_cons (ps_for PassesOwn.never rfl (pi_tup (pv 4)) (pg_name (i := 6) scheld_back.nd rfl (Or.inl rfl))
        (pss_cons (ps_set (i := 7) scheld_back.nd rfl (Or.inl rfl) (pe_ifExp (pt_cmpR op_eq (pv 1) pe_str (nomark _)) (pe_mt (k_join T) hr (by decide) (pv 0) (pa_cons (pv 3) (pa_cons (pv 6) pa_nil))) pe_non))
        (pss_cons (ps_set (i := 8) scheld_back.nd rfl (Or.inl rfl) (pe_or (pe_cmpR (op_eqD hu) (pv 5) (pe_lst pa_nil) (nomark _)) (pe_one (pe_cmpR op_lt
            (pe_ix ix_tup (pe_fld (pv 0) rfl) (pe_ix ix_list (pv 5) (pe_un un_neg pe_int) (fun _ _ => rfl)) (fun _ _ => rfl)) (pe_ix ix_tup (pe_fld (pv 0) rfl) (pv 6) (fun _ _ => rfl)) (nomark _)))))
        (pss_one (ps_if (PW.pt (pw_and (pt_cmp (pc_notN (pv 7))) (pw_and1 (pt_val (pv 8)))))
          (pss_one (ps_set (i := 3) scheld_back.nd rfl (Or.inl rfl) (pv 7)))
          (pss_one (ps_expr (pe_bm PySem.F.plainAttrs_list PySem.F.slot_list_append PySem.F.type_list_append mt_append (pv 5) (pa_cons (pv 6) pa_nil)))))))))
      (pss_one (ps_ret (pe_tup (pa_cons (pv 3) (pa_star (pv 5) pa_nil)))))))), ?_⟩
    refine ⟨_, rfl, a, _, rfl, hs1, rfl, _, _, rfl, _, _, rfl, rfl, ?_⟩
    refine ⟨_, rfl, rfl, _, rfl, ?_⟩
    cases b with
    | none => exact iteT ⟨_, rfl, q _ _ (Same.refl _) hs2⟩
    | some x =>
      have hx := hv1 x rfl
      refine iteF ⟨line_of (by simp), fun D hD => ?_⟩
      refine ⟨_, rfl, t, rfl, ⟨_, same_t (same_new hD) hs2⟩, ?_⟩
      refine for_tN (f := iv) (ns := ms) (fun p σ H' => Same H H' ∧ H' D = some (.lst ((p.foldl m.hStep (x, [])).2.map iv)) ∧ ∃ o6 o7 o8, σ = [some (.ref tb), some (.str (wy m)), some (.ref a), some (iv (p.foldl m.hStep (x, [])).1), some (.ref t), some (.ref D), o6, o7, o8]) ⟨same_new hD, upd_same, _, _, _, rfl⟩
        (fun p σ H' hp => same_t hp.1 hs2) (fun p y l σ H' ec hp => ?_) (fun σ H' hp => ?_)
      · obtain ⟨sm, hL, o6, o7, o8, rfl⟩ := hp
        have hy : y < m.n := hv2 y (by rw [ec]; simp)
        obtain ⟨z1, z2, z3⟩ := fold_ok ok hx p.length p rfl fun s hs => hv2 s (by rw [ec]; simp [hs])
        have hpl : p.length ≤ 2 := by have := hv3; rw [ec] at this; simp at this; omega
        rw [fold_snoc]
        generalize p.foldl m.hStep (x, []) = st at hL z1 z2 z3 ⊢
        obtain ⟨z, ks⟩ := st
        have z3' : ks.length ≤ p.length := z3
        refine ⟨_, rfl, rfl, _, rfl, ?_⟩
        rw [wy_j]
        refine late_ok (o := m.pair z y) (fun H3 sm3 => ?_) (fun ej kk => ⟨_, rfl, tb, dx, _, rfl, sm _ _ h1, tF_no _ _ _ (by decide +kernel) (by decide +kernel) (by decide +kernel), _, rfl, _, rfl, tb, m, z, y, rfl, ht.same sm, ok, z1, hy, fun H3 sm3 => ?_⟩) (fun ej => by unfold Mo.pair; rw [ej]; rfl)
        · refine ⟨_, rfl, line_of (by simp), fun p5 hp5 => ⟨dL ks, dL [], .lst (sqL (same_new hp5 _ _ (sm3 _ _ hL))) (dp_ints _), .lst (sqL upd_same) .nil, shaped_list _, shaped_list _, ?_⟩⟩
          have sm4 := (sm.trans sm3).trans (same_new (o := .lst []) hp5)
          have hL4 : upd H3 p5 (.lst []) D = some (.lst (ks.map iv)) := same_new hp5 _ _ (sm3 _ _ hL)
          generalize upd H3 p5 (.lst []) = H4 at sm4 hL4 ⊢
          rw [eqv_list]
          refine or_ok (b := m.free ks y) ?_ (fun e => ?_) (fun e kk => ?_)
          · have es : m.hStep (z, ks) y = match m.pair z y with
              | some z' => if m.free ks y then (z', ks) else (z, ks ++ [y])
              | none => (z, ks ++ [y]) := rfl
            refine ⟨_, rfl, _, rfl, ?_⟩
            cases ep : m.pair z y with
            | none =>
              rw [ep] at es
              refine iteF (iteF ?_)
              refine ⟨_, rfl, .inl ⟨rfl, _, sqL hL4⟩, _, rfl, D, _, _, rfl, rfl, hL4, line_lt (by rw [List.length_map]; omega), ⟨Evl.Ex.mut sm4 hD, ?_, some (iv y), some (.non), some (.bl (m.free ks y)), ?_⟩⟩
              · rw [es]; show upd _ _ _ _ = some (.lst ((ks ++ [y]).map iv)); rw [iv_app]; exact upd_same
              · rw [es]; rfl
            | some z' =>
              rw [ep] at es
              refine iteT ⟨_, rfl, _, rfl, ?_⟩
              cases ef : m.free ks y with
              | true =>
                rw [ef] at es
                refine iteT ⟨_, rfl, ⟨sm4, ?_, some (iv y), some (iv z'), some (.bl true), ?_⟩⟩
                · rw [es]; exact hL4
                · rw [es]; rfl
              | false =>
                rw [ef] at es
                refine iteF ?_
                refine ⟨_, rfl, .inl ⟨rfl, _, sqL hL4⟩, _, rfl, D, _, _, rfl, rfl, hL4, line_lt (by rw [List.length_map]; omega), ⟨Evl.Ex.mut sm4 hD, ?_, some (iv y), some (iv z'), some (.bl (m.free ks y)), ?_⟩⟩
                · rw [es]; show upd _ _ _ _ = some (.lst ((ks ++ [y]).map iv)); rw [iv_app]; exact upd_same
                · rw [es, ef]; rfl
          · rw [decide_eq_true_eq] at e
            subst e
            rfl
          · rw [decide_eq_false_iff_not] at e
            rcases List.eq_nil_or_concat ks with e' | ⟨l', k, e'⟩
            · exact absurd e' e
            · rw [List.concat_eq_append] at e'
              subst e'
              have hk : k < m.n := z2 k (by simp)
              refine ⟨_, rfl, tb, _, dx, _, _, rfl, sm4 _ _ h1, T.cl_Table, T.na_Table_classes, tF_classes _ _ _, ?_⟩
              refine ⟨_, rfl, _, rfl, D, _, -1, _, rfl, rfl, sqL hL4, by rw [iv_app]; exact atI_last _ (iv k), ?_⟩
              refine ⟨c, _, (k : Nat), _, rfl, rfl, same_t sm4 h2, atI_nat (cl_get hk), ?_⟩
              refine ⟨_, rfl, tb, _, dx, _, _, rfl, sm4 _ _ h1, T.cl_Table, T.na_Table_classes, tF_classes _ _ _, ?_⟩
              refine ⟨_, rfl, c, _, (y : Nat), _, rfl, rfl, same_t sm4 h2, atI_nat (cl_get hy), _, _, rfl, rfl, ?_⟩
              have : m.free (l' ++ [k]) y = decide (((m.c k : Nat) : Int) < ((m.c y : Nat) : Int)) := by
                unfold Mo.free
                rw [List.getLast?_concat]
                show decide (m.c k < m.c y) = _
                by_cases h : m.c k < m.c y
                · rw [decide_eq_true h, decide_eq_true (by omega)]
                · rw [decide_eq_false h, decide_eq_false (by omega)]
              rw [this] at kk
              exact kk
        · have : m.pair z y = m.pair0 z y := by unfold Mo.pair; rw [ej]; rfl
          rw [← this]
          exact kk H3 sm3
      · obtain ⟨sm, hL, o6, o7, o8, rfl⟩ := hp
        obtain ⟨z1, z2, z3⟩ := fold_ok ok hx ms.length ms rfl hv2
        refine ⟨_, rfl, _, rfl, D, _, rfl, .inr (sqL hL), ?_, fun p5 hp5 => q _ _ (sm.trans (same_new hp5)) ?_⟩
        · refine line_of ?_
          have : ms.length ≤ 2 := hv3
          simp only [List.length_append, List.length_cons, List.length_map, List.length_nil]
          omega
        · have z := new_t (K := K) (H := H') (p := p5) (xs := iv (ms.foldl m.hStep (x, [])).1 :: ((ms.foldl m.hStep (x, [])).2.map iv ++ []))
          rw [List.append_nil] at z ⊢
          exact z
end
end Des
end T_D5
section T_D6
set_option linter.all false
set_option maxRecDepth 100000
set_option maxHeartbeats 2000000
namespace Des
open PySem PySem.Spec PyProof.Rows L2
open C8 (Cal Met Mak pe_c pe_mk pe_mt pe_mt0)
open StX (pa_star)
/-! ### what reading gives -/
theorem held_ok {m : Mo} (ok : m.Ok) {st : Sta} (h : VSta m st) : Vt m (m.held st) ∧ (m.held st).length ≤ 3 := by
  obtain ⟨b, ms⟩ := st
  obtain ⟨h1, h2, h3⟩ := h
  have h3' : ms.length ≤ 2 := h3
  cases b with
  | none =>
    have e : m.held (none, ms) = ms := rfl
    rw [e]
    exact ⟨h2, by omega⟩
  | some x =>
    obtain ⟨z1, z2, z3⟩ := fold_ok ok (h1 x rfl) ms.length ms rfl h2
    have e : m.held (some x, ms) = (ms.foldl m.hStep (x, [])).1 :: (ms.foldl m.hStep (x, [])).2 := rfl
    rw [e]
    refine ⟨fun s hs => ?_, by rw [List.length_cons]; omega⟩
    rcases List.mem_cons.mp hs with q | q
    · rw [q]; exact z1
    · exact z2 s q
theorem ins_ok {m : Mo} {l : List Nat} {x : Nat} (hv : Vt m l) (hx : x < m.n) : Vt m (m.ins l x) ∧ (m.ins l x).length = l.length + 1 := by
  unfold Mo.ins
  have hk : (l.filter fun y => decide (m.c y ≤ m.c x)).length ≤ l.length := List.length_filter_le _ _
  generalize (l.filter fun y => decide (m.c y ≤ m.c x)).length = k at hk
  refine ⟨fun s hs => ?_, ?_⟩
  · rcases List.mem_append.mp hs with q | q
    · exact hv s (List.mem_of_mem_take q)
    · rcases List.mem_cons.mp q with q | q
      · rw [q]; exact hx
      · exact hv s (List.mem_of_mem_drop q)
  · rw [List.length_append, List.length_cons, List.length_take, List.length_drop]
    omega
theorem vsta_one {m : Mo} {x : Nat} (hx : x < m.n) : VSta m (some x, []) := ⟨fun y e => by rw [← Option.some.inj e]; exact hx, fun s hs => by simp at hs, by simp⟩
theorem rdB_ok {m : Mo} (ok : m.Ok) {st st' : Sta} {x : Nat} {o : List Nat} (h : VSta m st) (hx : x < m.n) (e : m.rdB st x = some (st', o)) : VSta m st' ∧ Vt m o ∧ o.length ≤ 3 := by
  obtain ⟨hv, hl⟩ := held_ok ok h
  unfold Mo.rdB at e
  split at e
  · split at e
    · cases e
    · rename_i c hn
      have e := Option.some.inj e
      injection e with e1 e2
      subst e1 e2
      obtain ⟨i1, i2⟩ := ins_ok h.2.1 hx
      refine ⟨⟨h.1, i1, ?_⟩, fun s hs => by simp at hs, by simp⟩
      have := h.2.2
      show (m.ins st.2 x).length ≤ 2
      omega
  · split at e
    · split at e
      · rename_i z hz
        have e := Option.some.inj e
        injection e with e1 e2
        subst e1 e2
        exact ⟨vsta_one (pair0_lt ok hz), fun s hs => by simp at hs, by simp⟩
      · have e := Option.some.inj e
        injection e with e1 e2
        subst e1 e2
        exact ⟨vsta_one hx, hv, hl⟩
    · have e := Option.some.inj e
      injection e with e1 e2
      subst e1 e2
      exact ⟨vsta_one hx, hv, hl⟩
theorem rdL_cons {m : Mo} {st st' : Sta} {x : Nat} {xs o : List Nat} (e : m.rdL st (x :: xs) = some (st', o)) : ∃ st1 o1 o2, m.rdB st x = some (st1, o1) ∧ m.rdL st1 xs = some (st', o2) ∧ o = o1 ++ o2 := by
  unfold Mo.rdL at e
  split at e
  · cases e
  · rename_i st1 o1 h1
    split at e
    · cases e
    · rename_i st2 o2 h2
      have e := Option.some.inj e
      injection e with e1 e2
      subst e1
      exact ⟨st1, o1, o2, h1, h2, e2.symm⟩
theorem rdL_ok {m : Mo} (ok : m.Ok) : ∀ {l : List Nat} {st st' : Sta} {o : List Nat}, VSta m st → Vt m l → m.rdL st l = some (st', o) → VSta m st' ∧ Vt m o ∧ o.length ≤ 3 * l.length
  | [], st, st', o, h, _, e => by
    have e : some (st, ([] : List Nat)) = some (st', o) := e
    have e := Option.some.inj e
    injection e with e1 e2
    subst e1 e2
    exact ⟨h, fun s hs => by simp at hs, by simp⟩
  | x :: xs, st, st', o, h, hv, e => by
    obtain ⟨st1, o1, o2, h1, h2, rfl⟩ := rdL_cons e
    obtain ⟨a1, a2, a3⟩ := rdB_ok ok h (hv x (by simp)) h1
    obtain ⟨b1, b2, b3⟩ := rdL_ok ok (l := xs) a1 (fun s hs => hv s (by simp [hs])) h2
    refine ⟨b1, fun s hs => ?_, by rw [List.length_append, List.length_cons]; omega⟩
    rcases List.mem_append.mp hs with q | q
    · exact a2 s q
    · exact b2 s q
theorem rdL_one {m : Mo} {st st1 : Sta} {x : Nat} {o : List Nat} (e : m.rdB st x = some (st1, o)) : m.rdL st [x] = some (st1, o) := by
  unfold Mo.rdL
  rw [e]
  unfold Mo.rdL
  simp
section
variable {P : Program} {w : World} {K : PySem.W.Frag} {mg : Str → Option Value} {base : Heap}
/-! ### read_bare -/
def spRdB (K : PySem.W.Frag) : Sp := fun vs H Q _ => ∃ tb m a st x st' o, vs = [.ref tb, .str (wy m), .ref a, iv x] ∧ TabAt K H tb m ∧ m.Ok ∧ StaAt K H a st ∧ VSta m st ∧ x < m.n ∧ m.rdB st x = some (st', o) ∧
  ∀ p sp op H', Same H H' → SqT K H' p [.ref sp, .ref op] → StaAt K H' sp st' → TI K H' op o → Q (.ref p) H'
theorem dec_nat (a b : Nat) : decide (V.int (a : Int) = V.int (b : Int)) = decide (a = b) := by
  by_cases h : a = b
  · subst h; simp
  · rw [decide_eq_false h, decide_eq_false (fun z => h (by injection z with z; omega))]
theorem k_rdB (T : Tx K mg) : Cal P w K mg base 5 "read_bare" (spRdB K) [] := by
  obtain ⟨fd, F⟩ := T.F_read_bare
  obtain ⟨tm, hmm⟩ := T.i_MOST_MARKS
  refine calOf F (bread_bare F) T.g_read_bare scread_bare (fun vs H Q E h => ?_) (fun cdv A outer s H vs Q E hr h => ?_)
  · obtain ⟨tb, m, a, st, x, st', o, rfl, _⟩ := h
    rfl
  · obtain ⟨tb, m, a, ⟨b, ms⟩, x, st', o, rfl, ht, ok, ⟨t, hs1, hs2⟩, hv, hx, er, q⟩ := h
    obtain ⟨dx, c, r, s', h1, h2, h3, h4⟩ := ht.ex
    refine ⟨_, pss_cons (ps_asg (pv 2) (pg_tup rfl (pgs_cons (pg_name (i := 4) scread_bare.nd rfl (Or.inl rfl)) (pgs_cons (pg_name (i := 5) scread_bare.nd rfl (Or.inl rfl)) pgs_nil))))
      (pss_cons (ps_if (pt_cmpR op_gt (pe_ix ix_tup (pe_fld (pv 0) rfl) (pv 3) (fun _ _ => rfl)) pe_int (nomark _))
        (pss_cons (ps_if (pt_cmpR op_eq (pe_callB call_len_seq rfl T.n_len PySem.boot_len (pa_cons (pv 5) pa_nil)) (pe_glob (v := .int 2) rfl hmm ⟨_, rfl⟩) (nomark _)) (pss_one ps_never) pss_nil)
          (pss_one (ps_ret (pe_tup (pa_cons (pe_tup (pa_cons (pv 4) (pa_cons (pe_c (k_mark T) hr (by decide) rfl (pa_cons (pv 0) (pa_cons (pv 5) (pa_cons (pv 3) pa_nil)))) pa_nil))) (pa_cons (pe_tup pa_nil) pa_nil)))))) pss_nil)
      (pss_cons (ps_set (i := 6) scread_bare.nd rfl (Or.inl rfl) (pe_c (k_held T) hr (by decide) rfl (pa_cons (pv 0) (pa_cons (pv 1) (pa_cons (pv 2) pa_nil)))))
      (pss_cons (ps_if (PW.pt (pw_and (pt_cmpR op_eq (pv 1) pe_str (nomark _)) (pw_and (pt_cmpR op_eq (pe_callB call_len_seq rfl T.n_len PySem.boot_len (pa_cons (pv 6) pa_nil)) pe_int (nomark _)) (pw_and1 (pt_cmp (pc_notN (pv 4)))))))
        (pss_cons (ps_set (i := 7) scread_bare.nd rfl (Or.inl rfl) (pe_mt (k_join T) hr (by decide) (pv 0) (pa_cons (pe_ix ix_tup (pv 6) pe_int (fun _ _ => rfl)) (pa_cons (pv 3) pa_nil))))
          (pss_one (ps_if (pt_cmp (pc_notN (pv 7))) (pss_one (ps_ret (pe_tup (pa_cons (pe_tup (pa_cons (pv 7) (pa_cons (pe_tup pa_nil) pa_nil))) (pa_cons (pe_tup pa_nil) pa_nil))))) pss_nil))) pss_nil)
      (pss_one (ps_ret (pe_tup (pa_cons (pe_tup (pa_cons (pv 3) (pa_cons (pe_tup pa_nil) pa_nil))) (pa_cons (pv 6) pa_nil)))))))), ?_⟩
    refine ⟨_, rfl, a, _, rfl, hs1, rfl, _, _, rfl, _, _, rfl, rfl, ?_⟩
    refine ⟨_, rfl, tb, _, dx, _, _, rfl, h1, T.cl_Table, T.na_Table_classes, tF_classes _ _ _, _, rfl, c, _, (x : Nat), _, rfl, rfl, h2, atI_nat (cl_get hx), _, _, rfl, rfl, _, rfl, ?_⟩
    have hms : ms.length ≤ 2 := hv.2.2
    by_cases c0 : 0 < m.c x
    · rw [show decide ((0 : Int) < ((m.c x : Nat) : Int)) = true from decide_eq_true (by omega)]
      have e0 : m.rdB (b, ms) x = if ms.length = 2 then none else some ((b, m.ins ms x), []) := by unfold Mo.rdB; rw [if_pos c0]
      rw [e0] at er
      by_cases c2 : ms.length = 2
      · rw [if_pos c2] at er; cases er
      · rw [if_neg c2] at er
        have e := Option.some.inj er
        injection e with e1 e2
        subst e1 e2
        refine iteT ⟨_, rfl, t, _, rfl, .inr hs2, rfl, _, rfl, ?_⟩
        rw [show decide (V.int ((List.map iv ms).length : Nat) = V.int 2) = false from decide_eq_false (fun z => c2 (by injection z with z; rw [List.length_map] at z; omega))]
        refine iteF ?_
        refine ⟨_, rfl, _, rfl, _, rfl, _, rfl, tb, m, t, ms, x, rfl, ht, hs2, hv.2.1, hms, hx, fun u H2 sm2 hu2 => ?_⟩
        refine ⟨line_of (by simp), fun p3 hp3 => ?_⟩
        refine ⟨line_of (by simp), fun p4 hp4 => ⟨line_of (by simp), fun p5 hp5 => ?_⟩⟩
        have e3 := same_new (o := .tup [ov b, .ref u]) hp3
        have e4 := same_new (o := .tup []) hp4
        have e5 := same_new (o := .tup [.ref p3, .ref p4]) hp5
        exact q p5 p3 p4 _ (((sm2.trans e3).trans e4).trans e5) new_t ⟨u, same_t (e4.trans e5) new_t, same_t (e3.trans (e4.trans e5)) hu2⟩ (same_t e5 new_t)
    · rw [show decide ((0 : Int) < ((m.c x : Nat) : Int)) = false from decide_eq_false (by omega)]
      refine iteF ?_
      refine ⟨_, rfl, _, rfl, _, rfl, tb, m, a, (b, ms), rfl, ht, ok, ⟨t, hs1, hs2⟩, hv, fun u H2 sm2 hu2 => ?_⟩
      have eN : m.rdB (b, ms) x = if m.jn = true ∧ (m.held (b, ms)).length = 1 ∧ b.isSome = true then match m.pair0 ((m.held (b, ms)).headD 0) x with
          | some z => some ((some z, []), [])
          | none => some ((some x, []), m.held (b, ms))
        else some ((some x, []), m.held (b, ms)) := by unfold Mo.rdB; rw [if_neg c0] <;> rfl
      rw [er] at eN
      obtain ⟨hh1, hh2⟩ := held_ok ok hv
      generalize m.held (b, ms) = hd at hu2 eN hh1 hh2
      refine ⟨_, rfl, rfl, _, rfl, ?_⟩
      rw [wy_j]
      cases ej : m.jn with
      | false =>
        rw [if_neg (by rw [ej]; simp)] at eN
        refine iteF (iteF ?_)
        have e := Option.some.inj eN
        injection e with e1 e2
        subst e1 e2
        refine ⟨_, rfl, line_of (by simp), fun p3 hp3 => ⟨line_of (by simp), fun p4 hp4 => ⟨_, rfl, line_of (by simp), fun p5 hp5 => ?_⟩⟩⟩
        have e3 := same_new (o := .tup []) hp3
        have e4 := same_new (o := .tup [iv x, .ref p3]) hp4
        have e5 := same_new (o := .tup [.ref p4, .ref u]) hp5
        exact q p5 p4 u _ (Same.trans sm2 (e3.trans (e4.trans e5))) new_t ⟨p3, same_t e5 new_t, same_t (e4.trans e5) new_t⟩ (same_t (e3.trans (e4.trans e5)) hu2)
      | true =>
        refine iteT ⟨_, rfl, u, _, rfl, .inr hu2, rfl, _, rfl, ?_⟩
        by_cases cl : hd.length = 1
        · rw [show decide (V.int ((List.map iv hd).length : Nat) = V.int 1) = true from decide_eq_true (by rw [List.length_map, cl]; rfl)]
          refine iteT ⟨_, rfl, _, rfl, ?_⟩
          cases b with
          | none =>
            rw [if_neg (by simp)] at eN
            refine iteF ?_
            have e := Option.some.inj eN
            injection e with e1 e2
            subst e1 e2
            refine ⟨_, rfl, line_of (by simp), fun p3 hp3 => ⟨line_of (by simp), fun p4 hp4 => ⟨_, rfl, line_of (by simp), fun p5 hp5 => ?_⟩⟩⟩
            have e3 := same_new (o := .tup []) hp3
            have e4 := same_new (o := .tup [iv x, .ref p3]) hp4
            have e5 := same_new (o := .tup [.ref p4, .ref u]) hp5
            exact q p5 p4 u _ (Same.trans sm2 (e3.trans (e4.trans e5))) new_t ⟨p3, same_t e5 new_t, same_t (e4.trans e5) new_t⟩ (same_t (e3.trans (e4.trans e5)) hu2)
          | some b =>
            rw [if_pos ⟨ej, cl, rfl⟩] at eN
            refine iteT ?_
            cases hd with
            | nil => cases cl
            | cons y hd =>
              have hy : y < m.n := hh1 y (by simp)
              refine ⟨_, rfl, tb, dx, _, rfl, sm2 _ _ h1, tF_no _ _ _ (by decide +kernel) (by decide +kernel) (by decide +kernel), _, rfl, u, _, 0, _, rfl, rfl, hu2, atI_nat (j := 0) (v := iv y) rfl, _, rfl, tb, m, y, x, rfl, ht.same sm2, ok, hy, hx, fun H3 sm3 => ?_⟩
              have eN : some (st', o) = match m.pair0 y x with
                | some z => some ((some z, []), [])
                | none => some ((some x, []), y :: hd) := eN
              refine ⟨_, rfl, _, rfl, ?_⟩
              cases ep : m.pair0 y x with
              | none =>
                rw [ep] at eN
                refine iteF ?_
                have e := Option.some.inj eN
                injection e with e1 e2
                subst e1 e2
                refine ⟨_, rfl, line_of (by simp), fun p3 hp3 => ⟨line_of (by simp), fun p4 hp4 => ⟨_, rfl, line_of (by simp), fun p5 hp5 => ?_⟩⟩⟩
                have e3 := same_new (o := .tup []) hp3
                have e4 := same_new (o := .tup [iv x, .ref p3]) hp4
                have e5 := same_new (o := .tup [.ref p4, .ref u]) hp5
                exact q p5 p4 u _ (Same.trans (sm2.trans sm3) (e3.trans (e4.trans e5))) new_t ⟨p3, same_t e5 new_t, same_t (e4.trans e5) new_t⟩ (same_t (e3.trans (e4.trans e5)) (same_t sm3 hu2))
              | some z =>
                rw [ep] at eN
                have e := Option.some.inj eN
                injection e with e1 e2
                subst e1 e2
                refine iteT ⟨_, rfl, line_of (by simp), fun p3 hp3 => ⟨line_of (by simp), fun p4 hp4 => ⟨line_of (by simp), fun p5 hp5 => ⟨line_of (by simp), fun p6 hp6 => ?_⟩⟩⟩⟩
                have e3 := same_new (o := .tup []) hp3
                have e4 := same_new (o := .tup [iv z, .ref p3]) hp4
                have e5 := same_new (o := .tup []) hp5
                have e6 := same_new (o := .tup [.ref p4, .ref p5]) hp6
                exact q p6 p4 p5 _ ((sm2.trans sm3).trans (e3.trans (e4.trans (e5.trans e6)))) new_t ⟨p3, same_t (e5.trans e6) new_t, same_t (e4.trans (e5.trans e6)) new_t⟩ (same_t e6 new_t)
        · rw [show decide (V.int ((List.map iv hd).length : Nat) = V.int 1) = false from decide_eq_false (fun z => cl (by injection z with z; rw [List.length_map] at z; omega))]
          rw [if_neg (fun z => cl z.2.1)] at eN
          refine iteF (iteF ?_)
          have e := Option.some.inj eN
          injection e with e1 e2
          subst e1 e2
          refine ⟨_, rfl, line_of (by simp), fun p3 hp3 => ⟨line_of (by simp), fun p4 hp4 => ⟨_, rfl, line_of (by simp), fun p5 hp5 => ?_⟩⟩⟩
          have e3 := same_new (o := .tup []) hp3
          have e4 := same_new (o := .tup [iv x, .ref p3]) hp4
          have e5 := same_new (o := .tup [.ref p4, .ref u]) hp5
          exact q p5 p4 u _ (Same.trans sm2 (e3.trans (e4.trans e5))) new_t ⟨p3, same_t e5 new_t, same_t (e4.trans e5) new_t⟩ (same_t (e3.trans (e4.trans e5)) hu2)
/-! ### read_sign -/
def spRdS (K : PySem.W.Frag) : Sp := fun vs H Q _ => ∃ tb m a st x st' o, vs = [.ref tb, .str (wy m), .ref a, iv x] ∧ TabAt K H tb m ∧ m.Ok ∧ StaAt K H a st ∧ VSta m st ∧ x < m.n ∧ m.rdL st (m.bare x) = some (st', o) ∧
  ∀ p sp op H', Same H H' → SqT K H' p [.ref sp, .ref op] → StaAt K H' sp st' → TI K H' op o → Q (.ref p) H'
theorem k_rdS (T : Tx K mg) : Cal P w K mg base 10 "read_sign" (spRdS K) [] := by
  obtain ⟨fd, F⟩ := T.F_read_sign
  refine calOf F (bread_sign F) T.g_read_sign scread_sign (fun vs H Q E h => ?_) (fun cdv A outer s H vs Q E hr h => ?_)
  · obtain ⟨tb, m, a, st, x, st', o, rfl, _⟩ := h
    rfl
  · obtain ⟨tb, m, a, st, x, st', o, rfl, ht, ok, hs, hv, hx, er, q⟩ := h
    obtain ⟨dx, c, r, s', h1, h2, h3, h4⟩ := ht.ex
    refine ⟨_, pss_cons (ps_set (i := 4) scread_sign.nd rfl (Or.inl rfl) (pe_tup pa_nil))
      (pss_cons (ps_for PassesOwn.never rfl (pi_tup (pe_mt (k_bare6 T) hr (by decide) (pv 0) (pa_cons (pv 3) pa_nil))) (pg_name (i := 5) scread_sign.nd rfl (Or.inl rfl))
        (pss_cons (ps_set (i := 6) scread_sign.nd rfl (Or.inl rfl) (pe_c (k_rdB T) hr (by decide) rfl (pa_cons (pv 0) (pa_cons (pv 1) (pa_cons (pv 2) (pa_cons (pv 5) pa_nil))))))
        (pss_cons (ps_if (pt_cmpR op_isN (pv 6) pe_non (nomark _)) (pss_one ps_never) pss_nil)
        (pss_cons (ps_set (i := 2) scread_sign.nd rfl (Or.inl rfl) (pe_ix ix_tup (pv 6) pe_int (fun _ _ => rfl)))
        (pss_one (ps_set (i := 4) scread_sign.nd rfl (Or.inl rfl) (pe_tup (pa_star (pv 4) (pa_star (pe_ix ix_tup (pv 6) pe_int (fun _ _ => rfl)) pa_nil)))))))))
      (pss_one (ps_ret (pe_tup (pa_cons (pv 2) (pa_cons (pv 4) pa_nil)))))), ?_⟩
    refine ⟨line_of (by simp), fun p0 hp0 => ?_⟩
    have e0 := same_new (o := .tup []) hp0
    refine ⟨_, rfl, tb, dx, _, rfl, e0 _ _ h1, tF_no _ _ _ (by decide +kernel) (by decide +kernel) (by decide +kernel), _, rfl, tb, m, x, rfl, ht.same e0, ok, hx, lt6 ok hx, fun u Hu smu hu1 => ⟨u, rfl, ⟨_, hu1⟩, ?_⟩⟩
    have hbl := bare_len64 ok hx
    refine for_tN (f := iv) (ns := m.bare x) (fun p σ H' => Same Hu H' ∧ ∃ st1 o1 sa fa o5 o6, σ = [some (.ref tb), some (.str (wy m)), some (.ref sa), some (iv x), some (.ref fa), o5, o6] ∧ m.rdL st p = some (st1, o1) ∧ StaAt K H' sa st1 ∧ TI K H' fa o1)
      ⟨Same.refl _, st, [], a, p0, _, _, rfl, rfl, hs.same (e0.trans smu), same_t smu new_t⟩ (fun p σ H' hp => same_t hp.1 hu1) (fun p y l σ H' ec hp => ?_) (fun σ H' hp => ?_)
    · obtain ⟨sm, st1, o1, sa, fa, o5, o6, rfl, e1, hsa, hfa⟩ := hp
      have hvp : Vt m p := fun s hs => bare_lt ok (x + 1) x (by omega) hx s (by rw [ec]; simp [hs])
      have hy : y < m.n := bare_lt ok (x + 1) x (by omega) hx y (by rw [ec]; simp)
      obtain ⟨v1, v2, v3⟩ := rdL_ok ok hv hvp e1
      rw [ec] at er
      obtain ⟨st2, o2, o3, f1, f2, _⟩ := rdL_left er
      rw [e1] at f1
      have f1 := Option.some.inj f1
      injection f1 with g1 g2
      subst g1 g2
      obtain ⟨st3, o4, o5', f3, f4, _⟩ := rdL_cons f2
      obtain ⟨w1, w2, w3⟩ := rdB_ok ok v1 hy f3
      have smH := (e0.trans smu).trans sm
      refine ⟨_, rfl, _, rfl, _, rfl, _, rfl, tb, m, sa, st1, y, st3, o4, rfl, ht.same smH, ok, hsa, v1, hy, f3, fun p1 sp op H1 sm1 k1 k2 k3 => ?_⟩
      refine ⟨_, rfl, rfl, _, rfl, iteF ?_⟩
      refine ⟨_, rfl, p1, _, 0, _, rfl, rfl, k1, rfl, ?_⟩
      refine ⟨_, rfl, fa, _, rfl, .inl (same_t sm1 hfa), _, rfl, p1, _, 1, _, rfl, rfl, k1, rfl, op, _, rfl, .inl k3, ?_, fun p5 hp5 => ?_⟩
      · refine line_of ?_
        have : p.length ≤ 64 := by rw [ec] at hbl; simp at hbl; omega
        simp only [List.length_append, List.length_map, List.length_nil]
        omega
      · have e5 := same_new (o := .tup (List.map iv o1 ++ (List.map iv o4 ++ []))) hp5
        refine ⟨(sm.trans sm1).trans e5, st3, o1 ++ o4, sp, p5, _, _, rfl, rdL_app e1 (rdL_one f3), k2.same e5, ?_⟩
        rw [List.append_nil, ← iv_app]
        exact new_t
    · obtain ⟨sm, st1, o1, sa, fa, o5, o6, rfl, e1, hsa, hfa⟩ := hp
      rw [er] at e1
      have e1 := Option.some.inj e1
      injection e1 with g1 g2
      subst g1 g2
      refine ⟨_, rfl, _, rfl, line_of (by simp), fun p5 hp5 => ?_⟩
      have e5 := same_new (o := .tup [.ref sa, .ref fa]) hp5
      exact q p5 sa fa _ ((e0.trans smu).trans (sm.trans e5)) new_t (hsa.same e5) (same_t e5 hfa)
/-! ### made_plain -/
def spPlain (K : PySem.W.Frag) : Sp := fun vs H Q _ => ∃ tb m a t, vs = [.ref tb, .str (wy m), .ref a] ∧ TabAt K H tb m ∧ m.Ok ∧ TI K H a t ∧ Vt m t ∧ t.length ≤ 200 ∧ m.tame t = true ∧ ∀ u H', Same H H' → TI K H' u (m.made t) → Q (.ref u) H'
theorem vsta_none {m : Mo} : VSta m (none, []) := ⟨(fun y e => by cases e), (fun s hs => by simp at hs), (by simp)⟩
theorem k_plain (T : Tx K mg) : Cal P w K mg base 11 "made_plain" (spPlain K) [] := by
  obtain ⟨fd, F⟩ := T.F_made_plain
  obtain ⟨u0, hF1, hF2⟩ := T.t_FIRST
  refine calOf F (bmade_plain F) T.g_made_plain scmade_plain (fun vs H Q E h => ?_) (fun cdv A outer s H vs Q E hr h => ?_)
  · obtain ⟨tb, m, a, t, rfl, _⟩ := h
    rfl
  · obtain ⟨tb, m, a, t, rfl, ht, ok, hT, hv, hz, htm, q⟩ := h
    obtain ⟨dx, c, r, s', h1, h2, h3, h4⟩ := ht.ex
    obtain ⟨stz, oz, er⟩ := tame_reads htm
    refine ⟨_, pss_cons (ps_par (i := 3) (j := 4) (by rfl) scmade_plain.nd rfl rfl (by decide) rfl rfl (pa_cons (pe_glob (v := .ref (He.ga K "FIRST")) rfl T.g_FIRST rfl) (pa_cons (pe_tup pa_nil) pa_nil)) (by rfl))
      (pss_cons (ps_for PassesOwn.never rfl (pi_tup (pv 2)) (pg_name (i := 5) scmade_plain.nd rfl (Or.inl rfl))
        (pss_cons (ps_asg (pe_c (k_rdS T) hr (by decide) rfl (pa_cons (pv 0) (pa_cons (pv 1) (pa_cons (pv 3) (pa_cons (pv 5) pa_nil))))) (pg_tup rfl (pgs_cons (pg_name (i := 3) scmade_plain.nd rfl (Or.inl rfl)) (pgs_cons (pg_name (i := 6) scmade_plain.nd rfl (Or.inl rfl)) pgs_nil))))
        (pss_one (ps_set (i := 4) scmade_plain.nd rfl (Or.inl rfl) (pe_tup (pa_star (pv 4) (pa_star (pv 6) pa_nil)))))))
      (pss_one (ps_ret (pe_tup (pa_star (pv 4) (pa_star (pe_c (k_held T) hr (by decide) rfl (pa_cons (pv 0) (pa_cons (pv 1) (pa_cons (pv 3) pa_nil)))) pa_nil)))))), ?_⟩
    refine ⟨line_of (by simp), fun p0 hp0 => ?_⟩
    have e0 := same_new (o := .tup []) hp0
    refine ⟨_, _, rfl, ?_⟩
    refine ⟨_, rfl, a, rfl, ⟨_, same_t e0 hT⟩, ?_⟩
    refine for_tN (f := iv) (ns := t) (fun p σ H' => Same H H' ∧ ∃ st1 o1 sa fa o5 o6, σ = [some (.ref tb), some (.str (wy m)), some (.ref a), some (.ref sa), some (.ref fa), o5, o6] ∧ m.rdL (none, []) (m.flat p) = some (st1, o1) ∧ StaAt K H' sa st1 ∧ TI K H' fa o1)
      ⟨e0, (none, []), [], He.ga K "FIRST", p0, _, _, rfl, rfl, ⟨u0, sqK hF1, sqK hF2⟩, new_t⟩ (fun p σ H' hp => same_t hp.1 hT) (fun p y l σ H' ec hp => ?_) (fun σ H' hp => ?_)
    · obtain ⟨sm, st1, o1, sa, fa, o5, o6, rfl, e1, hsa, hfa⟩ := hp
      have hvp : Vt m p := fun s hs => hv s (by rw [ec]; simp [hs])
      have hy : y < m.n := hv y (by rw [ec]; simp)
      obtain ⟨v1, v2, v3⟩ := rdL_ok ok vsta_none (flat_lt ok hvp) e1
      have hfl := flat_len ok hvp
      rw [ec, flat_app, flat_cons] at er
      obtain ⟨st2, o2, o3, f1, f2, _⟩ := rdL_left er
      rw [e1] at f1
      have f1 := Option.some.inj f1
      injection f1 with g1 g2
      subst g1 g2
      obtain ⟨st3, o4, o5', f3, f4, _⟩ := rdL_left f2
      obtain ⟨w1, w2, w3⟩ := rdL_ok ok v1 (fun s hs => bare_lt ok (y + 1) y (by omega) hy s hs) f3
      have hbl := bare_len64 ok hy
      refine ⟨_, rfl, _, rfl, _, rfl, _, rfl, tb, m, sa, st1, y, st3, o4, rfl, ht.same sm, ok, hsa, v1, hy, f3, fun p1 sp op H1 sm1 k1 k2 k3 => ?_⟩
      refine ⟨p1, _, rfl, k1, rfl, _, _, rfl, _, _, rfl, rfl, ?_⟩
      refine ⟨_, rfl, fa, _, rfl, .inl (same_t sm1 hfa), _, rfl, op, _, rfl, .inl k3, ?_, fun p5 hp5 => ?_⟩
      · refine line_of ?_
        have : p.length ≤ 200 := by rw [ec] at hz; simp at hz; omega
        simp only [List.length_append, List.length_map, List.length_nil]
        omega
      · have e5 := same_new (o := .tup (List.map iv o1 ++ (List.map iv o4 ++ []))) hp5
        refine ⟨(sm.trans sm1).trans e5, st3, o1 ++ o4, sp, p5, _, _, rfl, ?_, k2.same e5, ?_⟩
        · rw [flat_snoc]
          exact rdL_app e1 f3
        · rw [List.append_nil, ← iv_app]
          exact new_t
    · obtain ⟨sm, st1, o1, sa, fa, o5, o6, rfl, e1, hsa, hfa⟩ := hp
      obtain ⟨v1, v2, v3⟩ := rdL_ok ok vsta_none (flat_lt ok hv) e1
      have hfl := flat_len ok hv
      have em : m.made t = o1 ++ m.held st1 := by unfold Mo.made; rw [e1]
      obtain ⟨hh1, hh2⟩ := held_ok ok v1
      refine ⟨_, rfl, fa, _, rfl, .inl hfa, _, rfl, _, rfl, _, rfl, tb, m, sa, st1, rfl, ht.same sm, ok, hsa, v1, fun u H2 sm2 hu => ?_⟩
      refine ⟨u, _, rfl, .inl hu, ?_, fun p5 hp5 => q _ _ ((sm.trans sm2).trans (same_new hp5)) ?_⟩
      · refine line_of ?_
        simp only [List.length_append, List.length_map, List.length_nil]
        omega
      · rw [em, List.append_nil, ← iv_app]
        exact new_t
end
end Des
end T_D6
section T_D7
set_option linter.all false
set_option maxRecDepth 100000
set_option maxHeartbeats 2000000
namespace Des
open PySem PySem.Spec PyProof.Rows L2
open C8 (Cal Met Mak pe_c pe_mk pe_mt pe_mt0)
open StX (pa_star)
/-! ### what an instance's change leaves -/
section
variable {K : PySem.W.Frag} {Fx : List Addr} {H H' : Hp} {p C dx : Addr} {fs : List (Str × V)}
theorem imm1 {o : HO} (k : Keep [p] H H') (h : H p = some o) (n : ¬ Fxd Fx p o) : Imm Fx H H' := Imm.keep k fun a ha o' ho f => by
  rw [List.mem_singleton] at ha
  subst ha
  rw [h] at ho
  rw [← Option.some.inj ho] at f
  exact n f
theorem ins_nf (h : p ∉ Fx) : ¬ Fxd Fx p (.ins C dx fs) := not_fxd h (fun _ => by simp) (fun _ _ => by simp)
theorem keep_upd {o : HO} (k : Keep [p] H H') : Keep [p] H (upd H' p o) := k.upd (by simp)
theorem keep_same (k : Keep [p] H H') {H2 : Hp} (e : Same H' H2) : Keep [p] H H2 := k.trans (Keep.of e)
end
/-! ### the history is in order -/
structure HOk (m : Mo) (hs : Hist) : Prop where
  at_ : ∀ i q, hs[i]? = some q → Vt m q.2 ∧ m.tame q.2 = true ∧ q.2.length ≤ i + 1
theorem hok_nil {m : Mo} : HOk m [] := ⟨fun i q h => by simp at h⟩
theorem hok_cur {m : Mo} {hs : Hist} (h : HOk m hs) : Vt m (cur hs) ∧ m.tame (cur hs) = true ∧ (cur hs).length ≤ hs.length := by
  rcases List.eq_nil_or_concat hs with e | ⟨l, q, e⟩
  · subst e
    exact ⟨(fun s hs => by simp [cur] at hs), rfl, Nat.le_refl _⟩
  · rw [List.concat_eq_append] at e
    subst e
    rw [cur_snoc]
    obtain ⟨a, b, c⟩ := h.at_ l.length q (by simp)
    exact ⟨a, b, by simp; omega⟩
theorem hok_snoc {m : Mo} {hs : Hist} {q : Ed × List Nat} (h : HOk m hs) (v : Vt m q.2) (t : m.tame q.2 = true) (l : q.2.length ≤ hs.length + 1) : HOk m (hs ++ [q]) := ⟨fun i x e => by
  by_cases c : i < hs.length
  · rw [List.getElem?_append_left c] at e
    exact h.at_ i x e
  · rw [List.getElem?_append_right (by omega)] at e
    have ei : i - hs.length = 0 := by
      rcases Nat.eq_zero_or_pos (i - hs.length) with z | z
      · exact z
      · rw [List.getElem?_eq_none (by simp; omega)] at e; cases e
    rw [ei] at e
    have e := Option.some.inj e
    rw [← e]
    exact ⟨v, t, by omega⟩⟩
theorem hok_left {m : Mo} {hs : Hist} {q : Ed × List Nat} (h : HOk m (hs ++ [q])) : HOk m hs := ⟨fun i x e => by
  refine h.at_ i x ?_
  obtain ⟨hi, _⟩ := List.getElem?_eq_some_iff.mp e
  rw [List.getElem?_append_left hi]
  exact e⟩
section
variable {P : Program} {w : World} {K : PySem.W.Frag} {mg : Str → Option Value} {base : Heap}
theorem fnOf {x qual : Str} {f : Addr} {st : Stmt} {fd : FuncData} {N ps : List Str} {k : Nat} {sp : Sp} (F : FunD K x qual (defArgs st) (defBody st) (defScope st) [] [] f fd) (S : FnScope N ps (defScope st))
    (len : ∀ vs H Q E, sp vs H Q E → vs.length = ps.length)
    (hbody : ∀ (cdv : Value) (A : Around) (outer : List Env) (s : Shared) (H : Hp) (vs : List V) (Q : VK) (E : XK), Room k (A.deeper (envOfC qual (defScope st) s.heap.objs.size f cdv)) → sp vs H Q E →
      ∃ t, PSs (cxOf CX0 P w K mg base N qual (defScope st) f cdv A outer s H E).nox (defBody st) t ∧ t { nx := fun _ H' => Q .non H', rt := Q } (start N vs) H) : FnOk P w K mg base CX0 (k + 1) f fd ps sp :=
  F.ok S len (fun cdv A outer s H vs Q E hr h => by
    obtain ⟨t, h1, h2⟩ := hbody cdv A outer s H vs Q E hr h
    exact ⟨t, h1.nox, h2⟩)
/-- a property -/
structure Prp (P : Program) (w : World) (K : PySem.W.Frag) (mg : Str → Option Value) (base : Heap) (k : Nat) (C : Addr) (f : Str) (sp : Sp) : Prop where
  ex : ∃ (p g : Addr) (fd : FuncData) (ps : List Str), Cls K C ∧ PropOf K C f p g ∧ FnOk P w K mg base CX0 k g fd ps sp ∧ Binds K fd ps []
theorem pe_pr {X : Cx} {k j : Nat} {C : Addr} {f : Str} {sp : Sp} {e : Expr} {ta : TE} {pos : Pos} (c : Prp X.prog X.w X.K X.mg X.base k C f sp) (hr : Room j X.A) (hk : k + 1 ≤ j) (he : PE X e ta)
    (hab : attributeBase e f X.env (eval e X.env) = eval e X.env) : PE X (.Attribute e f pos) (tProp C sp [] C8.E0 ta) := by
  obtain ⟨p, g, fd, ps, hc, hp, F, b⟩ := c.ex
  exact pe_prop he hc hp F (hr.mono hk) b .nil pass0 hab
theorem makOf {x qual : Str} {C f : Addr} {st : Stmt} {fd : FuncData} {N ps : List Str} {k : Nat} {sp : Sp} (M : Mk K C f) (hm : mg x = some (.ref C)) (F : FunD K "__init__" qual (defArgs st) (defBody st) (defScope st) [] [] f fd) (b : Binds K fd ps []) (S : FnScope N ps (defScope st))
    (len : ∀ vs H Q E, sp vs H Q E → vs.length = ps.length)
    (hbody : ∀ (cdv : Value) (A : Around) (outer : List Env) (s : Shared) (H : Hp) (vs : List V) (Q : VK) (E : XK), Room k (A.deeper (envOfC qual (defScope st) s.heap.objs.size f cdv)) → sp vs H Q E →
      ∃ t, PSs (cxOf CX0 P w K mg base N qual (defScope st) f cdv A outer s H E).nox (defBody st) t ∧ t { nx := fun _ H' => Q .non H', rt := Q } (start N vs) H) : Mak P w K mg base (k + 1) x C sp [] :=
  ⟨f, fd, ps, [], M, F.ok S len (fun cdv A outer s H vs Q E hr h => by
    obtain ⟨t, h1, h2⟩ := hbody cdv A outer s H vs Q E hr h
    exact ⟨t, h1.nox, h2⟩), hm, b, .nil⟩
theorem put2 {a b : Str} {x y : V} (h : ¬ a = b) : putF b y (putF a x []) = [(a, x), (b, y)] := (putF_on h).trans rfl
/-! ### Desk.__init__ -/
def spDInit (K : PySem.W.Frag) : Sp := fun vs H Q _ => ∃ x dx tb m, vs = [.ref x, .ref tb, .str (wy m)] ∧ H x = some (.ins (He.ga K "Desk") dx []) ∧ TabAt K H tb m ∧ ∀ H', Keep [x] H H' → DeskAt K H' x tb m [] 0 → Q .non H'
theorem k_dinit (T : Tx K mg) : Mak P w K mg base 3 "Desk" (He.ga K "Desk") (spDInit K) [] := by
  obtain ⟨fd, F⟩ := T.F_Desk_init
  refine makOf T.mk_Desk T.g_Desk F (bDesk_init F) scDesk_init (fun vs H Q E h => ?_) (fun cdv A outer s H vs Q E hr h => ?_)
  · obtain ⟨x, dx, tb, m, rfl, _⟩ := h
    rfl
  · obtain ⟨x, dx, tb, m, rfl, hx, ht, q⟩ := h
    refine ⟨_, pss_cons (ps_expr (pe_c (k_cway T) hr (by decide) rfl (pa_cons (pv 1) (pa_cons (pv 2) pa_nil))))
      (pss_cons (ps_fld (pv 0) (pe_tup (pa_cons (pv 1) (pa_cons (pv 2) pa_nil))) rfl)
      (pss_one (ps_fld (pv 0) (pe_tup (pa_cons (pe_tup pa_nil) (pa_cons (pe_tup pa_nil) (pa_cons pe_int pa_nil)))) rfl))), ?_⟩
    refine ⟨_, rfl, _, rfl, tb, m, rfl, ht, ?_⟩
    refine ⟨_, rfl, _, rfl, line_of (by simp), fun p1 hp1 => ?_⟩
    have e1 := same_new (o := .tup [.ref tb, .str (wy m)]) hp1
    have n1 : p1 ≠ x := (ne_of_none hx hp1).symm
    have t1 : SqT K (upd H p1 (.tup [.ref tb, .str (wy m)])) p1 [.ref tb, .str (wy m)] := new_t
    refine ⟨_, rfl, x, _, dx, _, rfl, e1 _ _ hx, T.cl_Desk, T.na_Desk_base, (by simp), ?_⟩
    generalize upd H p1 (.tup [.ref tb, .str (wy m)]) = H1 at e1 t1
    have k1 : Keep [x] H1 (upd H1 x (.ins (He.ga K "Desk") dx (putF "base" (.ref p1) []))) := keep_upd Keep.refl
    have hx1 : upd H1 x (.ins (He.ga K "Desk") dx (putF "base" (.ref p1) [])) x = some (.ins (He.ga K "Desk") dx (putF "base" (.ref p1) [])) := upd_same
    have i1 : Imm [] H1 (upd H1 x (.ins (He.ga K "Desk") dx (putF "base" (.ref p1) []))) := imm1 k1 (e1 _ _ hx) (ins_nf (by simp))
    generalize upd H1 x (.ins (He.ga K "Desk") dx (putF "base" (.ref p1) [])) = H2 at k1 i1 hx1 ⊢
    refine ⟨line_of (by simp), fun p2 hp2 => ⟨line_of (by simp), fun p3 hp3 => ⟨line_of (by simp), fun p4 hp4 => ?_⟩⟩⟩
    have e2 := same_new (o := .tup []) hp2
    have e3 := same_new (o := .tup []) hp3
    have e4 := same_new (o := .tup [.ref p2, .ref p3, .int 0]) hp4
    have t2 : SqT K (upd H2 p2 (.tup [])) p2 [] := new_t
    have t3 : SqT K (upd (upd H2 p2 (.tup [])) p3 (.tup [])) p3 [] := new_t
    have t4 : SqT K (upd (upd (upd H2 p2 (.tup [])) p3 (.tup [])) p4 (.tup [.ref p2, .ref p3, .int 0])) p4 [.ref p2, .ref p3, .int 0] := new_t
    have t2 := same_t (e3.trans e4) t2
    have t3 := same_t e4 t3
    have e5 := e2.trans (e3.trans e4)
    generalize upd (upd (upd H2 p2 (.tup [])) p3 (.tup [])) p4 (.tup [.ref p2, .ref p3, .int 0]) = H3 at t2 t3 t4 e5 ⊢
    refine ⟨_, rfl, x, _, dx, _, rfl, e5 _ _ hx1, T.cl_Desk, T.na_Desk_kept, (by simp [putF]), ?_⟩
    have k3 : Keep [x] H3 (upd H3 x (.ins (He.ga K "Desk") dx (putF "kept" (.ref p4) (putF "base" (.ref p1) [])))) := keep_upd Keep.refl
    have i3 : Imm [] H3 (upd H3 x (.ins (He.ga K "Desk") dx (putF "kept" (.ref p4) (putF "base" (.ref p1) [])))) := imm1 k3 (e5 _ _ hx1) (ins_nf (by simp))
    refine q _ ((keep_same (Keep.of e1) (Same.refl _)).trans (k1.trans ((Keep.of e5).trans k3))) ⟨dx, p1, p4, ?_, i3.t (same_t e5 (i1.t t1)), p2, p3, i3.t t4, i3.t t2, [], i3.t t3, .nil⟩
    rw [put2 (by decide +kernel)]
    exact upd_same
/-! ### what is read of a desk -/
theorem desk_ins {H : Hp} {p tb : Addr} {m : Mo} {hs : Hist} {fl : Nat} (h : DeskAt K H p tb m hs fl) : ∃ dx b k t ns, H p = some (.ins (He.ga K "Desk") dx (dF b k)) ∧ SqT K H b [.ref tb, .str (wy m)] ∧ SqT K H k [.ref t, .ref ns, iv fl] ∧ TI K H t (cur hs) ∧ NotesAt K H ns (notes hs) := by
  obtain ⟨dx, b, k, h1, h2, t, ns, h3, h4, h5⟩ := h
  exact ⟨dx, b, k, t, ns, h1, h2, h3, h4, h5⟩
def spSigns (K : PySem.W.Frag) : Sp := fun vs H Q _ => ∃ p tb m hs fl, vs = [.ref p] ∧ DeskAt K H p tb m hs fl ∧ ∀ t, TI K H t (cur hs) → Q (.ref t) H
theorem k_signs (T : Tx K mg) : Prp P w K mg base 1 (He.ga K "Desk") "signs" (spSigns K) := by
  obtain ⟨fd, F⟩ := T.F_Desk_signs
  refine ⟨_, _, fd, _, T.cl_Desk, T.p_Desk_signs, fnOf (st := sDesk_signs) F scDesk_signs (fun vs H Q E h => ?_) (fun cdv A outer s H vs Q E hr h => ?_), bDesk_signs F⟩
  · obtain ⟨p, tb, m, hs, fl, rfl, _⟩ := h
    rfl
  · obtain ⟨p, tb, m, hs, fl, rfl, hd, q⟩ := h
    obtain ⟨dx, b, k, t, ns, h1, h2, h3, h4, h5⟩ := desk_ins hd
    refine ⟨_, pss_one (ps_ret (pe_ix ix_tup (pe_fld (pv 0) rfl) pe_int (fun _ _ => rfl))), ?_⟩
    exact ⟨_, rfl, p, _, dx, _, _, rfl, h1, T.cl_Desk, T.na_Desk_kept, dF_kept _ _, k, _, 0, _, rfl, rfl, h3, rfl, q t h4⟩
def spMade (K : PySem.W.Frag) : Sp := fun vs H Q _ => ∃ p tb m hs fl, vs = [.ref p] ∧ DeskAt K H p tb m hs fl ∧ TabAt K H tb m ∧ m.Ok ∧ HOk m hs ∧ hs.length ≤ 200 ∧ ∀ u H', Same H H' → TI K H' u (m.made (cur hs)) → Q (.ref u) H'
theorem k_made (T : Tx K mg) : Prp P w K mg base 12 (He.ga K "Desk") "made" (spMade K) := by
  obtain ⟨fd, F⟩ := T.F_Desk_made
  refine ⟨_, _, fd, _, T.cl_Desk, T.p_Desk_made, fnOf (st := sDesk_made) F scDesk_made (fun vs H Q E h => ?_) (fun cdv A outer s H vs Q E hr h => ?_), bDesk_made F⟩
  · obtain ⟨p, tb, m, hs, fl, rfl, _⟩ := h
    rfl
  · obtain ⟨p, tb, m, hs, fl, rfl, hd, ht, ok, ho, hl, q⟩ := h
    obtain ⟨dx, b, k, t, ns, h1, h2, h3, h4, h5⟩ := desk_ins hd
    obtain ⟨c1, c2, c3⟩ := hok_cur ho
    refine ⟨_, pss_one (ps_ret (pe_c (k_plain T) hr (by decide) rfl (pa_cons (pe_ix ix_tup (pe_fld (pv 0) rfl) pe_int (fun _ _ => rfl)) (pa_cons (pe_ix ix_tup (pe_fld (pv 0) rfl) pe_int (fun _ _ => rfl)) (pa_cons (pe_ix ix_tup (pe_fld (pv 0) rfl) pe_int (fun _ _ => rfl)) pa_nil))))), ?_⟩
    refine ⟨_, rfl, p, _, dx, _, _, rfl, h1, T.cl_Desk, T.na_Desk_base, dF_base _ _, b, _, 0, _, rfl, rfl, h2, rfl, ?_⟩
    refine ⟨_, rfl, p, _, dx, _, _, rfl, h1, T.cl_Desk, T.na_Desk_base, dF_base _ _, b, _, 1, _, rfl, rfl, h2, rfl, ?_⟩
    exact ⟨_, rfl, p, _, dx, _, _, rfl, h1, T.cl_Desk, T.na_Desk_kept, dF_kept _ _, k, _, 0, _, rfl, rfl, h3, rfl, tb, m, t, _, rfl, ht, ok, h4, c1, by omega, c2, q⟩
/-! ### the journal -/
def JrAt (K : PySem.W.Frag) (H : Hp) (D : Addr) (eds : List Ed) : Prop := ∃ es : List Addr, H D = some (.lst (es.map V.ref)) ∧ Paired (EdAt K H) es eds
theorem notes_split {H : Hp} : ∀ {nv : List Addr} {l : List (Ed × List Nat)}, Paired (NoteR K H) nv l → ∃ es : List Addr, Paired (fun n e => ∃ t, SqT K H n [.ref e, .ref t]) nv es ∧ Paired (EdAt K H) es (l.map (·.1))
  | _, _, .nil => ⟨[], .nil, .nil⟩
  | _, _, .cons r t => by
    obtain ⟨es, h1, h2⟩ := notes_split t
    obtain ⟨e, u, a1, a2, a3⟩ := r
    exact ⟨e :: es, .cons ⟨u, a1⟩ h1, .cons a2 h2⟩
def spJour (K : PySem.W.Frag) : Sp := fun vs H Q _ => ∃ p tb m hs fl, vs = [.ref p] ∧ DeskAt K H p tb m hs fl ∧ hs.length ≤ 200 ∧ ∀ D H', Same H H' → JrAt K H' D (hs.map (·.1)) → Q (.ref D) H'
theorem k_jour (T : Tx K mg) : Prp P w K mg base 1 (He.ga K "Desk") "journal" (spJour K) := by
  obtain ⟨fd, F⟩ := T.F_Desk_journal
  refine ⟨_, _, fd, _, T.cl_Desk, T.p_Desk_journal, fnOf (st := sDesk_journal) F scDesk_journal (fun vs H Q E h => ?_) (fun cdv A outer s H vs Q E hr h => ?_), bDesk_journal F⟩
  · obtain ⟨p, tb, m, hs, fl, rfl, _⟩ := h
    rfl
  · obtain ⟨p, tb, m, hs, fl, rfl, hd, hl, q⟩ := h
    obtain ⟨dx, b, k, t, ns, h1, h2, h3, h4, nv, h5, h6⟩ := desk_ins hd
    obtain ⟨es, g1, g2⟩ := notes_split h6
    rw [notes_fst] at g2
    refine ⟨_, pss_one (ps_ret (pe_lc (own := [("edit", 1), ("text", 2)]) (g := gTup K 2 (gCons (gName 1) (gCons (gName 2) gNil))) (tt := tYes) (te := tVar 1) rfl scDesk_journal.nd
        (pi_tup (pe_ix ix_tup (pe_fld (pv 0) rfl) pe_int (fun _ _ => rfl))) (blkOk_by (own := [("edit", 1), ("text", 2)]) (N := ["self", "edit", "text"]) (sc := defScope sDesk_journal) (by decide +kernel))
        (fun _ _ _ _ _ => pg_tup rfl (pgs_cons (pg_name (i := 1) scDesk_journal.nd rfl (Or.inl rfl)) (pgs_cons (pg_name (i := 2) scDesk_journal.nd rfl (Or.inl rfl)) pgs_nil))) (fun _ _ _ _ _ => pts_nil) (fun _ _ _ _ _ => pv 1))), ?_⟩
    refine ⟨_, rfl, p, _, dx, _, _, rfl, h1, T.cl_Desk, T.na_Desk_kept, dF_kept _ _, k, _, 1, _, rfl, rfl, h3, rfl, ns, rfl, ⟨_, h5⟩, fun D hD => ?_⟩
    have gl := paired_len g2
    rw [List.length_map] at gl
    refine lcT (l := es) (Rl := fun v e => ∃ n t, v = V.ref n ∧ SqT K H n [.ref e, .ref t]) h5 (paired_mapl g1 fun x e z => ⟨x, z.choose, rfl, z.choose_spec⟩) hD (line_lt (by omega)) (fun e => some (.ref e)) (fun x e H2 _ hx sm R hN hS => ?_) (fun H2 sm hL => ?_)
    · obtain ⟨n, t', rfl, ht'⟩ := hx
      refine ⟨n, _, rfl, same_t sm ht', rfl, _, _, rfl, _, _, rfl, rfl, rfl, ?_⟩
      show tVar 1 _ _ _
      exact ⟨_, rfl, hS _ rfl _ (Same.refl _)⟩
    · refine q D H2 sm ⟨es, ?_, paired_imp g2 fun _ _ z => same_t sm z⟩
      rw [hL, List.filterMap_eq_map']
/-! ### len(desk) -/
def spDLen (K : PySem.W.Frag) : Sp := fun vs H Q _ => ∃ p tb m hs fl, vs = [.ref p] ∧ DeskAt K H p tb m hs fl ∧ Q (iv (cur hs).length) H
theorem k_dlen (T : Tx K mg) : Met P w K mg base 1 (He.ga K "Desk") "__len__" (spDLen K) [] := by
  obtain ⟨fd, F⟩ := T.F_Desk_len
  refine metOf F (bDesk_len F) T.cl_Desk T.m_Desk_len scDesk_len (fun vs H Q E h => ?_) (fun cdv A outer s H vs Q E hr h => ?_)
  · obtain ⟨p, tb, m, hs, fl, rfl, _⟩ := h
    rfl
  · obtain ⟨p, tb, m, hs, fl, rfl, hd, q⟩ := h
    obtain ⟨dx, b, k, t, ns, h1, h2, h3, h4, h5⟩ := desk_ins hd
    refine ⟨_, pss_one (ps_ret (pe_callB call_len_seq rfl T.n_len PySem.boot_len (pa_cons (pe_ix ix_tup (pe_fld (pv 0) rfl) pe_int (fun _ _ => rfl)) pa_nil))), ?_⟩
    refine ⟨_, rfl, p, _, dx, _, _, rfl, h1, T.cl_Desk, T.na_Desk_kept, dF_kept _ _, k, _, 0, _, rfl, rfl, h3, rfl, t, _, rfl, .inr h4, ?_⟩
    rw [List.length_map]
    exact q
theorem call_lenD {X : Cx} {k : Nat} (c : Met X.prog X.w X.K X.mg X.base k (He.ga X.K "Desk") "__len__" (spDLen X.K) []) (hr : Room (k + 1) X.A) : CallR X (.builtin "len") (fun xs H Q => ∃ p tb m hs fl, xs = [.ref p] ∧ DeskAt X.K H p tb m hs fl ∧ (cur hs).length ≤ 200 ∧ Q (iv (cur hs).length) H) := by
  obtain ⟨f, fd, ps, ds, hc, hm, F, b, d⟩ := c.ex
  intro pins s σ H xs us Q I r q
  obtain ⟨p, tb, m, hs, fl, ex, hd, hl, q⟩ := q
  cases d
  obtain ⟨dx, b', k', h1, _⟩ := id hd
  exact call_lenOwn hm F hr b pass0 pins s σ H xs us Q I r ⟨p, dx, _, ex, h1, p, tb, m, hs, fl, rfl, hd, ((cur hs).length : Int), rfl, by omega, by omega, q⟩
/-! ### an edit -/
def spEdit (K : PySem.W.Frag) : Sp := fun vs H Q E => ∃ p a e tb m hs fl ed t, vs = [.ref p, .ref a, .ref e] ∧ DeskAt K H p tb m hs fl ∧ TabAt K H tb m ∧ m.Ok ∧ hs.length ≤ 200 ∧ TI K H a t ∧ Vt m t ∧ EdAt K H e ed ∧
  (m.tame t = true → ∀ H', Keep [p] H H' → DeskAt K H' p tb m (hs ++ [(ed, t)]) fl → Q .non H') ∧ (m.tame t = false → ∀ H', Same H H' → E (.ref (He.ga K "BadEdit")) none H')
theorem k_edit (T : Tx K mg) : MetX P w K mg base 12 (He.ga K "Desk") "edit" (spEdit K) := by
  obtain ⟨fd, F⟩ := T.F_Desk_edit
  refine metXOf F (bDesk_edit F) T.cl_Desk T.m_Desk_edit scDesk_edit (fun vs H Q E h => ?_) (fun cdv A outer s H vs Q E hr h => ?_)
  · obtain ⟨p, a, e, tb, m, hs, fl, ed, t, rfl, _⟩ := h
    rfl
  · obtain ⟨p, a, e, tb, m, hs, fl, ed, t', rfl, hd, ht, ok, hz, hT, hv, he, q1, q2⟩ := h
    obtain ⟨dx, b, k, t, ns, h1, h2, h3, h4, nv, h5, h6⟩ := desk_ins hd
    obtain ⟨x1, x2, x3, x4⟩ := T.x_BadEdit
    have hnl : nv.length = hs.length := by rw [paired_len h6, notes_len]
    refine ⟨_, pss_cons (ps_asg (pe_fld (pv 0) rfl) (pg_tup rfl (pgs_cons (pg_name (i := 3) scDesk_edit.nd rfl (Or.inl rfl)) (pgs_cons (pg_name (i := 4) scDesk_edit.nd rfl (Or.inl rfl)) (pgs_cons (pg_name (i := 5) scDesk_edit.nd rfl (Or.inl rfl)) pgs_nil)))))
      (pss_cons (ps_if (pt_not (pt_val (pe_c (k_tame T) hr (by decide) rfl (pa_cons (pe_ix ix_tup (pe_fld (pv 0) rfl) pe_int (fun _ _ => rfl)) (pa_cons (pv 1) pa_nil)))))
        (pss_one (ps_raise rfl (takes_of rfl rfl rfl rfl) (pmk_own PySem.F.excBase_ValueError x1 T.g_BadEdit x2 (raises_own x3 x4) rfl))) pss_nil)
      (pss_one (ps_fld (pv 0) (pe_tup (pa_cons (pv 1) (pa_cons (pe_tup (pa_star (pv 4) (pa_cons (pe_tup (pa_cons (pv 2) (pa_cons (pv 3) pa_nil))) pa_nil))) (pa_cons (pv 5) pa_nil)))) rfl))), ?_⟩
    refine ⟨_, rfl, p, _, dx, _, _, rfl, h1, T.cl_Desk, T.na_Desk_kept, dF_kept _ _, k, _, rfl, h3, rfl, _, _, rfl, _, _, rfl, _, _, rfl, rfl, ?_⟩
    refine ⟨_, rfl, p, _, dx, _, _, rfl, h1, T.cl_Desk, T.na_Desk_base, dF_base _ _, b, _, 0, _, rfl, rfl, h2, rfl, _, rfl, tb, m, a, t', rfl, ht, ok, hT, hv, fun H1 sm => ?_⟩
    refine ⟨_, rfl, ?_⟩
    cases et : m.tame t' with
    | false => exact iteT (q2 et _ sm)
    | true =>
      refine iteF ?_
      refine ⟨_, rfl, _, rfl, ns, _, rfl, .inl (same_t sm h5), _, rfl, _, rfl, line_of (by simp), fun p2 hp2 => ⟨line_of (by simp; omega), fun p3 hp3 => ⟨_, rfl, line_of (by simp), fun p4 hp4 => ?_⟩⟩⟩
      have e2 := same_new (o := .tup [.ref e, .ref t]) hp2
      have e3 := same_new (o := .tup (List.map V.ref nv ++ [.ref p2])) hp3
      have e4 := same_new (o := .tup [.ref a, .ref p3, iv fl]) hp4
      have t2 : SqT K (upd H1 p2 (.tup [.ref e, .ref t])) p2 [.ref e, .ref t] := new_t
      have t3 : SqT K (upd (upd H1 p2 (.tup [.ref e, .ref t])) p3 (.tup (List.map V.ref nv ++ [.ref p2]))) p3 (List.map V.ref nv ++ [.ref p2]) := new_t
      have t4 : SqT K (upd (upd (upd H1 p2 (.tup [.ref e, .ref t])) p3 (.tup (List.map V.ref nv ++ [.ref p2]))) p4 (.tup [.ref a, .ref p3, iv fl])) p4 [.ref a, .ref p3, iv fl] := new_t
      have t2 := same_t (e3.trans e4) t2
      have t3 := same_t e4 t3
      have e5 := sm.trans (e2.trans (e3.trans e4))
      generalize upd (upd (upd H1 p2 (.tup [.ref e, .ref t])) p3 (.tup (List.map V.ref nv ++ [.ref p2]))) p4 (.tup [.ref a, .ref p3, iv fl]) = H3 at t2 t3 t4 e5 ⊢
      refine ⟨_, rfl, p, _, dx, _, rfl, e5 _ _ h1, T.cl_Desk, T.na_Desk_kept, (by simp [dF]), ?_⟩
      rw [dF_put]
      have k3 : Keep [p] H3 (upd H3 p (.ins (He.ga K "Desk") dx (dF b p4))) := keep_upd Keep.refl
      have i3 : Imm [] H3 (upd H3 p (.ins (He.ga K "Desk") dx (dF b p4))) := imm1 k3 (e5 _ _ h1) (ins_nf (by simp))
      refine q1 et _ ((Keep.of e5).trans k3) ⟨dx, b, p4, upd_same, i3.t (same_t e5 h2), a, p3, i3.t t4, ?_, nv ++ [p2], ?_, ?_⟩
      · rw [cur_snoc]
        exact i3.t (same_t e5 hT)
      · rw [List.map_append]
        exact i3.t t3
      · rw [notes_snoc]
        exact paired_app (paired_imp h6 fun _ _ z => (z.imm (Imm.of (Fx := []) e5)).imm i3) (.cons ⟨e, t, i3.t t2, i3.t (same_t e5 he), i3.t (same_t e5 h4)⟩ .nil)
end
end Des
end T_D7
section T_D8
set_option linter.all false
set_option maxRecDepth 100000
set_option maxHeartbeats 2000000
namespace Des
open PySem PySem.Spec PyProof.Rows L2
open C8 (Cal Met Mak pe_c pe_mk pe_mt pe_mt0)
open StX (pa_star)
theorem isNum_inv {x : V} {k : Int} (h : isNum x 0 k = true) : ∃ n : Nat, x = iv n ∧ (n : Int) ≤ k := by
  unfold isNum at h
  split at h
  · rename_i i
    rw [Bool.and_eq_true, decide_eq_true_eq, decide_eq_true_eq] at h
    exact ⟨i.toNat, by show V.int i = V.int (i.toNat : Int); rw [Int.toNat_of_nonneg h.1], by rw [Int.toNat_of_nonneg h.1]; exact h.2⟩
  · cases h
def putT (t : List Nat) (i s : Nat) : List Nat := t.take i ++ s :: t.drop i
def takeT (t : List Nat) (i : Nat) : List Nat := t.take i ++ t.drop (i + 1)
theorem putT_vt {m : Mo} {t : List Nat} {i s : Nat} (h : Vt m t) (hs : s < m.n) : Vt m (putT t i s) := fun x hx => by
  rcases List.mem_append.mp hx with q | q
  · exact h x (List.mem_of_mem_take q)
  · rcases List.mem_cons.mp q with q | q
    · rw [q]; exact hs
    · exact h x (List.mem_of_mem_drop q)
theorem takeT_vt {m : Mo} {t : List Nat} {i : Nat} (h : Vt m t) : Vt m (takeT t i) := fun x hx => by
  rcases List.mem_append.mp hx with q | q
  · exact h x (List.mem_of_mem_take q)
  · exact h x (List.mem_of_mem_drop q)
theorem putT_len {t : List Nat} {i s : Nat} (h : i ≤ t.length) : (putT t i s).length = t.length + 1 := by
  unfold putT
  rw [List.length_append, List.length_cons, List.length_take, List.length_drop]
  omega
theorem takeT_len {t : List Nat} {i : Nat} (h : i < t.length) : (takeT t i).length + 1 = t.length := by
  unfold takeT
  rw [List.length_append, List.length_take, List.length_drop]
  omega
section
variable {P : Program} {w : World} {K : PySem.W.Frag} {mg : Str → Option Value} {base : Heap}
theorem slA_sufI {H : Hp} {a : Addr} {xs : List V} {n : Nat} {k : Int} {Q : VK} (e : k = (n : Int)) (h : SqT K H a xs) (hn : n ≤ xs.length) (q : ∀ p H', Same H H' → SqT K H' p (xs.drop n) → Q (.ref p) H') : rSlA K (.ref a) (some k) none H Q := by
  subst e
  exact slA_suf h hn q
/-! ### put -/
def spPut (K : PySem.W.Frag) : Sp := fun vs H Q E => ∃ p x y tb m hs fl, vs = [.ref p, x, y] ∧ DeskAt K H p tb m hs fl ∧ TabAt K H tb m ∧ m.Ok ∧ HOk m hs ∧ hs.length ≤ 199 ∧ simV x ∧ simV y ∧
  (isNum x 0 (cur hs).length = false → E (.ref (He.ga K "BadPlace")) none H) ∧ (isNum x 0 (cur hs).length = true → isNum y 0 ((m.n : Int) - 1) = false → E (.ref (He.ga K "BadSign")) none H) ∧
  ∀ i s, x = iv i → y = iv s → i ≤ (cur hs).length → s < m.n → (m.tame (putT (cur hs) i s) = false → ∀ H', Same H H' → E (.ref (He.ga K "BadEdit")) none H') ∧
    (m.tame (putT (cur hs) i s) = true → ∀ H', Keep [p] H H' → DeskAt K H' p tb m (hs ++ [(⟨true, i, s⟩, putT (cur hs) i s)]) fl → Q .non H')
theorem k_put (T : Tx K mg) : MetX P w K mg base 13 (He.ga K "Desk") "put" (spPut K) := by
  obtain ⟨fd, F⟩ := T.F_Desk_put
  refine metXOf F (bDesk_put F) T.cl_Desk T.m_Desk_put scDesk_put (fun vs H Q E h => ?_) (fun cdv A outer s H vs Q E hr h => ?_)
  · obtain ⟨p, x, y, tb, m, hs, fl, rfl, _⟩ := h
    rfl
  · obtain ⟨p, x, y, tb, m, hs, fl, rfl, hd, ht, ok, ho, hz, sx, sy, q1, q2, q3⟩ := h
    obtain ⟨dx, b, k, t, ns, h1, h2, h3, h4, h5⟩ := desk_ins hd
    obtain ⟨x1, x2, x3, x4⟩ := T.x_BadPlace
    obtain ⟨dxt, ct, rt, st, g1, _⟩ := id ht.ex
    refine ⟨_, pss_cons (ps_set (i := 3) scDesk_put.nd rfl (Or.inl rfl) (pe_ix ix_tup (pe_fld (pv 0) rfl) pe_int (fun _ _ => rfl)))
      (pss_cons (ps_if (pt_not (pt_val (pe_c (k_is_number T) hr (by decide) rfl (pa_cons (pv 1) (pa_cons pe_int (pa_cons (pe_callB call_len_seq rfl T.n_len PySem.boot_len (pa_cons (pv 3) pa_nil)) pa_nil))))))
        (pss_one (ps_raise rfl (takes_of rfl rfl rfl rfl) (pmk_own PySem.F.excBase_ValueError x1 T.g_BadPlace x2 (raises_own x3 x4) rfl))) pss_nil)
      (pss_cons (ps_expr (pe_mtX (k_checkX T) hr (by decide) (takes_of rfl rfl rfl rfl) (pe_ix ix_tup (pe_fld (pv 0) rfl) pe_int (fun _ _ => rfl)) (pa_cons (pv 2) pa_nil)))
      (pss_one (ps_expr (pe_mtX (k_edit T) hr (by decide) (takes_of rfl rfl rfl rfl) (pv 0) (pa_cons (pe_tup (pa_star (pe_slice sl_tupA (pv 3) po_none (po_some (pv 1))) (pa_cons (pv 2) (pa_star (pe_slice sl_tupA (pv 3) (po_some (pv 1)) po_none) pa_nil))))
        (pa_cons (pe_tup (pa_cons pe_str (pa_cons (pv 1) (pa_cons (pv 2) pa_nil)))) pa_nil))))))), ?_⟩
    refine ⟨_, rfl, p, _, dx, _, _, rfl, h1, T.cl_Desk, T.na_Desk_kept, dF_kept _ _, k, _, 0, _, rfl, rfl, h3, rfl, ?_⟩
    refine ⟨_, rfl, _, rfl, t, _, rfl, .inr h4, x, _, _, rfl, sx, _, rfl, ?_⟩
    rw [List.length_map]
    cases ex : isNum x 0 (cur hs).length with
    | false => exact iteT (q1 ex)
    | true =>
      refine iteF ?_
      obtain ⟨i, rfl, hi⟩ := isNum_inv ex
      have hi : i ≤ (cur hs).length := by omega
      refine ⟨_, rfl, p, _, dx, _, _, rfl, h1, T.cl_Desk, T.na_Desk_base, dF_base _ _, b, _, 0, _, rfl, rfl, h2, rfl, tb, dxt, _, rfl, g1, tF_no _ _ _ (by decide +kernel) (by decide +kernel) (by decide +kernel), _, rfl, tb, m, y, rfl, ht, sy, fun ey => ?_, fun ey => q2 ex ey⟩
      obtain ⟨sg, rfl, hs'⟩ := isNum_inv ey
      have hsg : sg < m.n := by omega
      obtain ⟨q4, q5⟩ := q3 i sg rfl rfl hi hsg
      obtain ⟨c1, c2, c3⟩ := hok_cur ho
      refine ⟨_, rfl, p, dx, _, rfl, h1, dF_no _ _ (by decide +kernel) (by decide +kernel), _, rfl, _, rfl, (i : Int), rfl, ?_⟩
      refine slA_pre h4 (by rw [List.length_map]; exact hi) fun p1 H1 sm1 hp1 => ⟨p1, _, rfl, .inl hp1, _, rfl, _, rfl, _, rfl, (i : Int), rfl, ?_⟩
      dsimp only [tNoPart]
      refine slA_suf (same_t sm1 h4) (by rw [List.length_map]; exact hi) fun p2 H2 sm2 hp2 => ⟨p2, _, rfl, .inl hp2, line_of ?_, fun p3 hp3 => ?_⟩
      · simp only [List.length_append, List.length_cons, List.length_take, List.length_drop, List.length_map, List.length_nil]
        omega
      · refine ⟨_, rfl, _, rfl, line_of (by simp), fun p4 hp4 => ?_⟩
        have t3 : SqT K (upd H2 p3 (.tup (List.take i (List.map iv (cur hs)) ++ iv sg :: (List.drop i (List.map iv (cur hs)) ++ [])))) p3 (List.take i (List.map iv (cur hs)) ++ iv sg :: (List.drop i (List.map iv (cur hs)) ++ [])) := new_t
        have t3 : TI K (upd H2 p3 (.tup (List.take i (List.map iv (cur hs)) ++ iv sg :: (List.drop i (List.map iv (cur hs)) ++ [])))) p3 (putT (cur hs) i sg) := by
          simpa [TI, putT, List.map_take, List.map_drop] using t3
        have e3 := same_new (o := .tup (List.take i (List.map iv (cur hs)) ++ iv sg :: (List.drop i (List.map iv (cur hs)) ++ []))) hp3
        have e4 := same_new (o := .tup [.str "put", iv i, iv sg]) hp4
        have e5 := (sm1.trans sm2).trans (e3.trans e4)
        refine ⟨p, p3, p4, tb, m, hs, fl, ⟨true, i, sg⟩, putT (cur hs) i sg, rfl, hd.same e5, ht.same e5, ok, by omega, same_t e4 t3, putT_vt c1 hsg, new_t, fun et H' k' d' => q5 et H' ((Keep.of e5).trans k') d', fun et H' s' => q4 et H' (e5.trans s')⟩
/-! ### take -/
def spTake (K : PySem.W.Frag) : Sp := fun vs H Q E => ∃ p x tb m hs fl, vs = [.ref p, x] ∧ DeskAt K H p tb m hs fl ∧ TabAt K H tb m ∧ m.Ok ∧ HOk m hs ∧ hs.length ≤ 199 ∧ simV x ∧
  (isNum x 0 ((cur hs).length - 1) = false → E (.ref (He.ga K "BadPlace")) none H) ∧
  ∀ i s, x = iv i → (cur hs)[i]? = some s → (m.tame (takeT (cur hs) i) = false → ∀ H', Same H H' → E (.ref (He.ga K "BadEdit")) none H') ∧
    (m.tame (takeT (cur hs) i) = true → ∀ H', Keep [p] H H' → DeskAt K H' p tb m (hs ++ [(⟨false, i, s⟩, takeT (cur hs) i)]) fl → Q (iv s) H')
theorem k_take (T : Tx K mg) : MetX P w K mg base 13 (He.ga K "Desk") "take" (spTake K) := by
  obtain ⟨fd, F⟩ := T.F_Desk_take
  refine metXOf F (bDesk_take F) T.cl_Desk T.m_Desk_take scDesk_take (fun vs H Q E h => ?_) (fun cdv A outer s H vs Q E hr h => ?_)
  · obtain ⟨p, x, tb, m, hs, fl, rfl, _⟩ := h
    rfl
  · obtain ⟨p, x, tb, m, hs, fl, rfl, hd, ht, ok, ho, hz, sx, q1, q3⟩ := h
    obtain ⟨dx, b, k, t, ns, h1, h2, h3, h4, h5⟩ := desk_ins hd
    obtain ⟨x1, x2, x3, x4⟩ := T.x_BadPlace
    refine ⟨_, pss_cons (ps_set (i := 2) scDesk_take.nd rfl (Or.inl rfl) (pe_ix ix_tup (pe_fld (pv 0) rfl) pe_int (fun _ _ => rfl)))
      (pss_cons (ps_if (pt_not (pt_val (pe_c (k_is_number T) hr (by decide) rfl (pa_cons (pv 1) (pa_cons pe_int (pa_cons (pe_op op_sub (pe_callB call_len_seq rfl T.n_len PySem.boot_len (pa_cons (pv 2) pa_nil)) pe_int) pa_nil))))))
        (pss_one (ps_raise rfl (takes_of rfl rfl rfl rfl) (pmk_own PySem.F.excBase_ValueError x1 T.g_BadPlace x2 (raises_own x3 x4) rfl))) pss_nil)
      (pss_cons (ps_expr (pe_mtX (k_edit T) hr (by decide) (takes_of rfl rfl rfl rfl) (pv 0) (pa_cons (pe_tup (pa_star (pe_slice sl_tupA (pv 2) po_none (po_some (pv 1))) (pa_star (pe_slice sl_tupA (pv 2) (po_some (pe_op op_add (pv 1) pe_int)) po_none) pa_nil)))
        (pa_cons (pe_tup (pa_cons pe_str (pa_cons (pv 1) (pa_cons (pe_ix ix_tup (pv 2) (pv 1) (fun _ _ => rfl)) pa_nil)))) pa_nil))))
      (pss_one (ps_ret (pe_ix ix_tup (pv 2) (pv 1) (fun _ _ => rfl)))))), ?_⟩
    refine ⟨_, rfl, p, _, dx, _, _, rfl, h1, T.cl_Desk, T.na_Desk_kept, dF_kept _ _, k, _, 0, _, rfl, rfl, h3, rfl, ?_⟩
    refine ⟨_, rfl, _, rfl, t, _, rfl, .inr h4, _, _, rfl, rfl, x, _, _, rfl, sx, _, rfl, ?_⟩
    rw [List.length_map]
    cases ex : isNum x 0 ((cur hs).length - 1) with
    | false => exact iteT (q1 ex)
    | true =>
      refine iteF ?_
      obtain ⟨i, rfl, hi⟩ := isNum_inv ex
      have hi : i < (cur hs).length := by omega
      obtain ⟨sg, hsg⟩ : ∃ sg, (cur hs)[i]? = some sg := ⟨_, List.getElem?_eq_getElem hi⟩
      have hat : (List.map iv (cur hs))[i]? = some (iv sg) := by rw [List.getElem?_map, hsg]; rfl
      obtain ⟨q4, q5⟩ := q3 i sg rfl hsg
      obtain ⟨c1, c2, c3⟩ := hok_cur ho
      refine ⟨_, rfl, p, dx, _, rfl, h1, dF_no _ _ (by decide +kernel) (by decide +kernel), _, rfl, _, rfl, (i : Int), rfl, ?_⟩
      refine slA_pre h4 (by rw [List.length_map]; omega) fun p1 H1 sm1 hp1 => ⟨p1, _, rfl, .inl hp1, _, rfl, _, rfl, (i : Int), (1 : Int), rfl, rfl, _, rfl, ?_⟩
      dsimp only [tNoPart]
      refine slA_sufI (n := i + 1) rfl (same_t sm1 h4) (by rw [List.length_map]; omega) fun p2 H2 sm2 hp2 => ⟨p2, _, rfl, .inl hp2, line_of ?_, fun p3 hp3 => ?_⟩
      · simp only [List.length_append, List.length_cons, List.length_take, List.length_drop, List.length_map, List.length_nil]
        omega
      · have e3 := same_new (o := .tup (List.take i (List.map iv (cur hs)) ++ (List.drop (i + 1) (List.map iv (cur hs)) ++ []))) hp3
        have e6 := (sm1.trans sm2).trans e3
        refine ⟨_, rfl, _, rfl, _, rfl, t, _, (i : Int), _, rfl, rfl, same_t e6 h4, atI_nat hat, line_of (by simp), fun p4 hp4 => ?_⟩
        have t3 : SqT K (upd H2 p3 (.tup (List.take i (List.map iv (cur hs)) ++ (List.drop (i + 1) (List.map iv (cur hs)) ++ [])))) p3 (List.take i (List.map iv (cur hs)) ++ (List.drop (i + 1) (List.map iv (cur hs)) ++ [])) := new_t
        have t3 : TI K (upd H2 p3 (.tup (List.take i (List.map iv (cur hs)) ++ (List.drop (i + 1) (List.map iv (cur hs)) ++ [])))) p3 (takeT (cur hs) i) := by
          simpa [TI, takeT, List.map_take, List.map_drop] using t3
        have e4 := same_new (o := .tup [.str "take", iv i, iv sg]) hp4
        have e5 := e6.trans e4
        refine ⟨p, p3, p4, tb, m, hs, fl, ⟨false, i, sg⟩, takeT (cur hs) i, rfl, hd.same e5, ht.same e5, ok, by omega, same_t e4 t3, takeT_vt c1, new_t, fun et H' k' d' => ?_, fun et H' s' => q4 et H' (e5.trans s')⟩
        have i' : Imm [] H H' := (Imm.of e5).trans (imm1 k' (e5 _ _ h1) (ins_nf (by simp)))
        exact ⟨_, rfl, _, rfl, t, _, (i : Int), _, rfl, rfl, i'.t h4, atI_nat hat, q5 et H' ((Keep.of e5).trans k') d'⟩
/-! ### undo -/
def spUndo (K : PySem.W.Frag) : Sp := fun vs H Q E => ∃ p tb m hs fl, vs = [.ref p] ∧ DeskAt K H p tb m hs fl ∧ hs.length ≤ 200 ∧
  (hs.length ≤ fl → ∀ H', Same H H' → E (.ref (He.ga K "NothingDone")) none H') ∧
  ∀ hs0 q, hs = hs0 ++ [q] → fl < hs.length → ∀ e H', Keep [p] H H' → DeskAt K H' p tb m hs0 fl → EdAt K H' e q.1 → Q (.ref e) H'
theorem paired_snoc {α β : Type} {F : α → β → Prop} : ∀ {l : List α} {l' : List β} {b : β}, Paired F l (l' ++ [b]) → ∃ l0 a, l = l0 ++ [a] ∧ Paired F l0 l' ∧ F a b
  | _, [], b, .cons r t => by
    cases t
    exact ⟨[], _, rfl, .nil, r⟩
  | _, y :: l', b, .cons (a := x) r t => by
    obtain ⟨l0, a, e, p, f⟩ := paired_snoc t
    exact ⟨x :: l0, a, by rw [e]; rfl, .cons r p, f⟩
theorem cutV_tail {xs : List V} {x : V} : cutV (x :: xs) (some 1) none = xs := by
  unfold cutV
  have : HT.sIx (x :: xs).length 0 (some 1) = 1 := by
    rw [show (1 : Int) = ((1 : Nat) : Int) from rfl, HT.sIx_nat, List.length_cons]
    omega
  rw [this, HT.sIx_none, List.drop_one, List.tail_cons]
  exact List.take_of_length_le (by rw [List.length_cons]; omega)
theorem cutV_init {xs : List V} {x : V} : cutV (xs ++ [x]) none (some (-1)) = xs := by
  unfold cutV
  have : HT.sIx (xs ++ [x]).length (xs ++ [x]).length (some (-1)) = xs.length := by
    show (if (-1 : Int) < 0 then ((-1 : Int) + ((xs ++ [x]).length : Int)).toNat else min (-1 : Int).toNat (xs ++ [x]).length) = _
    rw [if_pos (by decide), List.length_append, List.length_singleton]
    omega
  rw [this, HT.sIx_none, List.drop_zero, Nat.sub_zero]
  simp
theorem k_undo (T : Tx K mg) : MetX P w K mg base 1 (He.ga K "Desk") "undo" (spUndo K) := by
  obtain ⟨fd, F⟩ := T.F_Desk_undo
  refine metXOf F (bDesk_undo F) T.cl_Desk T.m_Desk_undo scDesk_undo (fun vs H Q E h => ?_) (fun cdv A outer s H vs Q E hr h => ?_)
  · obtain ⟨p, tb, m, hs, fl, rfl, _⟩ := h
    rfl
  · obtain ⟨p, tb, m, hs, fl, rfl, hd, hz, q1, q2⟩ := h
    obtain ⟨dx, b, k, t, ns, h1, h2, h3, h4, nv, h5, h6⟩ := desk_ins hd
    obtain ⟨x1, x2, x3, x4⟩ := T.x_NothingDone
    have hnl : nv.length = hs.length := by rw [paired_len h6, notes_len]
    refine ⟨_, pss_cons (ps_asg (pe_slice sl_tupA (pe_fld (pv 0) rfl) (po_some pe_int) po_none) (pg_tup rfl (pgs_cons (pg_name (i := 1) scDesk_undo.nd rfl (Or.inl rfl)) (pgs_cons (pg_name (i := 2) scDesk_undo.nd rfl (Or.inl rfl)) pgs_nil))))
      (pss_cons (ps_if (pt_cmpR op_le (pe_callB call_len_seq rfl T.n_len PySem.boot_len (pa_cons (pv 1) pa_nil)) (pv 2) (nomark _))
        (pss_one (ps_raise rfl (takes_of rfl rfl rfl rfl) (pmk_own PySem.F.excBase_ValueError x1 T.g_NothingDone x2 (raises_own x3 x4) rfl))) pss_nil)
      (pss_cons (ps_asg (pe_ix ix_tup (pv 1) (pe_un un_neg pe_int) (fun _ _ => rfl)) (pg_tup rfl (pgs_cons (pg_name (i := 3) scDesk_undo.nd rfl (Or.inl rfl)) (pgs_cons (pg_name (i := 4) scDesk_undo.nd rfl (Or.inl rfl)) pgs_nil))))
      (pss_cons (ps_fld (pv 0) (pe_tup (pa_cons (pv 4) (pa_cons (pe_slice sl_tupA (pv 1) po_none (po_some (pe_un un_neg pe_int))) (pa_cons (pv 2) pa_nil)))) rfl)
      (pss_one (ps_ret (pv 3)))))), ?_⟩
    refine ⟨_, rfl, p, _, dx, _, _, rfl, h1, T.cl_Desk, T.na_Desk_kept, dF_kept _ _, (1 : Int), rfl, ?_⟩
    dsimp only [tNoPart]
    refine ⟨k, _, rfl, h3, (fun z => absurd z.1 (by show ¬ (1 : Nat) = 0; decide)), fun _ p1 hp1 => ?_⟩
    rw [cutV_tail]
    have e1 := same_new (o := .tup [.ref ns, iv fl]) hp1
    have t1 : SqT K (upd H p1 (.tup [.ref ns, iv fl])) p1 [.ref ns, iv fl] := new_t
    generalize upd H p1 (.tup [.ref ns, iv fl]) = H1 at e1 t1 ⊢
    refine ⟨p1, _, rfl, t1, rfl, _, _, rfl, _, _, rfl, rfl, ?_⟩
    refine ⟨_, rfl, ns, _, rfl, .inr (same_t e1 h5), _, rfl, _, _, rfl, rfl, _, rfl, ?_⟩
    rw [List.length_map, hnl]
    by_cases c : hs.length ≤ fl
    · rw [show decide (((hs.length : Nat) : Int) ≤ ((fl : Nat) : Int)) = true from decide_eq_true (by omega)]
      exact iteT (q1 c _ e1)
    · rw [show decide (((hs.length : Nat) : Int) ≤ ((fl : Nat) : Int)) = false from decide_eq_false (by omega)]
      refine iteF ?_
      rcases List.eq_nil_or_concat hs with e | ⟨hs0, qe, e⟩
      · subst e
        exact absurd (Nat.zero_le _) c
      · rw [List.concat_eq_append] at e
        subst e
        rw [notes_snoc] at h6
        obtain ⟨nv0, n, rfl, g1, e, t', n1, n2, n3⟩ := paired_snoc h6
        rw [List.map_append] at h5
        refine ⟨_, rfl, (1 : Int), rfl, ns, _, (-1 : Int), _, rfl, rfl, same_t e1 h5, atI_last _ (V.ref n), ?_⟩
        refine ⟨n, _, rfl, same_t e1 n1, rfl, _, _, rfl, _, _, rfl, rfl, ?_⟩
        refine ⟨_, rfl, _, rfl, ?_⟩
        dsimp only [tNoPart]
        refine ⟨(1 : Int), rfl, (-1 : Int), rfl, ns, _, rfl, same_t e1 h5, (fun z => ?_), fun _ p2 hp2 => ?_⟩
        · have z2 := z.2
          have : HT.sIx (List.map V.ref nv0 ++ [V.ref n]).length (List.map V.ref nv0 ++ [V.ref n]).length (some (-1)) = nv0.length := by
            show (if (-1 : Int) < 0 then ((-1 : Int) + ((List.map V.ref nv0 ++ [V.ref n]).length : Int)).toNat else min (-1 : Int).toNat (List.map V.ref nv0 ++ [V.ref n]).length) = _
            rw [if_pos (by decide), List.length_append, List.length_singleton, List.length_map]
            omega
          rw [show HT.sIx (List.map V.ref nv0 ++ List.map V.ref [n]).length (List.map V.ref nv0 ++ List.map V.ref [n]).length (some (-1)) = _ from this] at z2
          rw [List.length_append, List.length_map] at z2
          simp at z2
        · have ec : cutV (List.map V.ref nv0 ++ List.map V.ref [n]) none (some (-1)) = List.map V.ref nv0 := cutV_init
          rw [ec]
          refine ⟨_, rfl, line_of (by simp), fun p3 hp3 => ?_⟩
          have e2 := same_new (o := .tup (List.map V.ref nv0)) hp2
          have e3 := same_new (o := .tup [.ref t', .ref p2, iv fl]) hp3
          have t2 : SqT K (upd H1 p2 (.tup (List.map V.ref nv0))) p2 (List.map V.ref nv0) := new_t
          have t3 : SqT K (upd (upd H1 p2 (.tup (List.map V.ref nv0))) p3 (.tup [.ref t', .ref p2, iv fl])) p3 [.ref t', .ref p2, iv fl] := new_t
          have t2 := same_t e3 t2
          have e5 := e1.trans (e2.trans e3)
          generalize upd (upd H1 p2 (.tup (List.map V.ref nv0))) p3 (.tup [.ref t', .ref p2, iv fl]) = H3 at t2 t3 e5 ⊢
          refine ⟨_, rfl, p, _, dx, _, rfl, e5 _ _ h1, T.cl_Desk, T.na_Desk_kept, (by simp [dF]), ?_⟩
          rw [dF_put]
          have k3 : Keep [p] H3 (upd H3 p (.ins (He.ga K "Desk") dx (dF b p3))) := keep_upd Keep.refl
          have i3 : Imm [] H3 (upd H3 p (.ins (He.ga K "Desk") dx (dF b p3))) := imm1 k3 (e5 _ _ h1) (ins_nf (by simp))
          have i5 : Imm [] H (upd H3 p (.ins (He.ga K "Desk") dx (dF b p3))) := (Imm.of e5).trans i3
          exact ⟨_, rfl, q2 hs0 qe rfl (by omega) e _ ((Keep.of e5).trans k3) ⟨dx, b, p3, upd_same, i5.t h2, t', p2, i3.t t3, i5.t n3, nv0, i3.t t2, paired_imp g1 fun _ _ z => z.imm i5⟩ (i5.t n2)⟩
end
end Des
end T_D8
section T_D9
set_option linter.all false
set_option maxRecDepth 100000
set_option maxHeartbeats 2000000
namespace Des
open PySem PySem.Spec PyProof.Rows L2
open C8 (Cal Met Mak pe_c pe_mk pe_mt pe_mt0)
open StX (pa_star)
section
variable {P : Program} {w : World} {K : PySem.W.Frag} {mg : Str → Option Value} {base : Heap}
theorem made_same {H H2 : Hp} {x dx C : Addr} (nx : H x = none) (nd : H dx = none) (k : Keep [x] (upd (upd H dx (.own x)) x (.ins C dx [])) H2) : Same H H2 := fun b o e => by
  refine k b o ?_ (fun z => ?_)
  · rw [upd_ne (ne_of_none e nx), upd_ne (ne_of_none e nd)]
    exact e
  · rw [List.mem_singleton] at z
    rw [z, nx] at e
    cases e
/-! ### branch -/
def spBranch (K : PySem.W.Frag) : Sp := fun vs H Q _ => ∃ p tb m hs fl, vs = [.ref p] ∧ DeskAt K H p tb m hs fl ∧ TabAt K H tb m ∧ ∀ x H', H x = none → Same H H' → DeskAt K H' x tb m hs 0 → Q (.ref x) H'
theorem k_branch (T : Tx K mg) : Met P w K mg base 5 (He.ga K "Desk") "branch" (spBranch K) [] := by
  obtain ⟨fd, F⟩ := T.F_Desk_branch
  refine metOf F (bDesk_branch F) T.cl_Desk T.m_Desk_branch scDesk_branch (fun vs H Q E h => ?_) (fun cdv A outer s H vs Q E hr h => ?_)
  · obtain ⟨p, tb, m, hs, fl, rfl, _⟩ := h
    rfl
  · obtain ⟨p, tb, m, hs, fl, rfl, hd, ht, q⟩ := h
    obtain ⟨dx, b, k, t, ns, h1, h2, h3, h4, h5⟩ := desk_ins hd
    refine ⟨_, pss_cons (ps_set (i := 1) scDesk_branch.nd rfl (Or.inl rfl) (pe_mk (k_dinit T) hr (by decide) rfl (pa_cons (pe_ix ix_tup (pe_fld (pv 0) rfl) pe_int (fun _ _ => rfl)) (pa_cons (pe_ix ix_tup (pe_fld (pv 0) rfl) pe_int (fun _ _ => rfl)) pa_nil))))
      (pss_cons (ps_fld (pv 1) (pe_tup (pa_cons (pe_ix ix_tup (pe_fld (pv 0) rfl) pe_int (fun _ _ => rfl)) (pa_cons (pe_ix ix_tup (pe_fld (pv 0) rfl) pe_int (fun _ _ => rfl)) (pa_cons pe_int pa_nil)))) rfl)
      (pss_one (ps_ret (pv 1)))), ?_⟩
    refine ⟨_, rfl, p, _, dx, _, _, rfl, h1, T.cl_Desk, T.na_Desk_base, dF_base _ _, b, _, 0, _, rfl, rfl, h2, rfl, ?_⟩
    refine ⟨_, rfl, p, _, dx, _, _, rfl, h1, T.cl_Desk, T.na_Desk_base, dF_base _ _, b, _, 1, _, rfl, rfl, h2, rfl, fun x dx' nx nd ne => ?_⟩
    have s0 : Same H (upd (upd H dx' (.own x)) x (.ins (He.ga K "Desk") dx' [])) := made_same nx nd Keep.refl
    refine ⟨x, dx', tb, m, rfl, upd_same, ht.same s0, fun H2 k2 d2 => ⟨rfl, ?_⟩⟩
    have s2 : Same H H2 := made_same nx nd k2
    obtain ⟨dxx, b', k', g1, g2, _⟩ := d2
    refine ⟨_, rfl, p, _, dx, _, _, rfl, s2 _ _ h1, T.cl_Desk, T.na_Desk_kept, dF_kept _ _, k, _, 0, _, rfl, rfl, same_t s2 h3, rfl, ?_⟩
    refine ⟨_, rfl, p, _, dx, _, _, rfl, s2 _ _ h1, T.cl_Desk, T.na_Desk_kept, dF_kept _ _, k, _, 1, _, rfl, rfl, same_t s2 h3, rfl, line_of (by simp), fun p3 hp3 => ?_⟩
    have e3 := same_new (o := .tup [.ref t, .ref ns, .int 0]) hp3
    have t3 : SqT K (upd H2 p3 (.tup [.ref t, .ref ns, .int 0])) p3 [.ref t, .ref ns, .int 0] := new_t
    have s3 := s2.trans e3
    have g1' := e3 _ _ g1
    have g2' := same_t e3 g2
    generalize upd H2 p3 (.tup [.ref t, .ref ns, .int 0]) = H3 at t3 s3 g1' g2' ⊢
    refine ⟨_, rfl, x, _, dxx, _, rfl, g1', T.cl_Desk, T.na_Desk_kept, (by simp [dF]), ?_⟩
    rw [dF_put]
    have k3 : Keep [x] H3 (upd H3 x (.ins (He.ga K "Desk") dxx (dF b' p3))) := keep_upd Keep.refl
    have i3 : Imm [] H3 (upd H3 x (.ins (He.ga K "Desk") dxx (dF b' p3))) := imm1 k3 g1' (ins_nf (by simp))
    have i5 := (Imm.of (Fx := []) s3).trans i3
    refine ⟨_, rfl, q x _ nx (fun a o e => k3 a o (s3 a o e) ?_) ⟨dxx, b', p3, upd_same, i3.t g2', t, ns, i3.t t3, i5.t h4, h5.imm i5⟩⟩
    simp only [List.mem_singleton]
    exact fun z => by rw [z, nx] at e; cases e
/-! ### Trial -/
def trF (p k : Addr) : List (Str × V) := [("desk", .ref p), ("before", .ref k)]
def TrAt (K : PySem.W.Frag) (H : Hp) (x p k : Addr) : Prop := ∃ dx, H x = some (.ins (He.ga K "Trial") dx (trF p k))
theorem trF_desk (p k : Addr) : (trF p k).lookup ("desk" : Str) = some (.ref p) := lk_at
theorem trF_before (p k : Addr) : (trF p k).lookup ("before" : Str) = some (.ref k) := (lk_on (by decide +kernel)).trans lk_at
theorem trF_put (p k k' : Addr) : putF "before" (.ref k') (trF p k) = trF p k' := (putF_on (by decide +kernel)).trans (congrArg _ putF_at)
def spTInit (K : PySem.W.Frag) : Sp := fun vs H Q _ => ∃ x dx p dxp b k, vs = [.ref x, .ref p] ∧ H x = some (.ins (He.ga K "Trial") dx []) ∧ H p = some (.ins (He.ga K "Desk") dxp (dF b k)) ∧ ∀ H', Keep [x] H H' → TrAt K H' x p k → Q .non H'
theorem k_tinit (T : Tx K mg) : Mak P w K mg base 1 "Trial" (He.ga K "Trial") (spTInit K) [] := by
  obtain ⟨fd, F⟩ := T.F_Trial_init
  refine makOf T.mk_Trial T.g_Trial F (bTrial_init F) scTrial_init (fun vs H Q E h => ?_) (fun cdv A outer s H vs Q E hr h => ?_)
  · obtain ⟨x, dx, p, dxp, b, k, rfl, _⟩ := h
    rfl
  · obtain ⟨x, dx, p, dxp, b, k, rfl, hx, hp, q⟩ := h
    have ne : p ≠ x := fun z => by
      rw [z, hx] at hp
      injection hp with hp
      injection hp with _ _ e
      cases e
    refine ⟨_, pss_cons (ps_fld (pv 0) (pv 1) rfl) (pss_one (ps_fld (pv 0) (pe_fld (pv 1) rfl) rfl)), ?_⟩
    refine ⟨_, rfl, _, rfl, x, _, dx, _, rfl, hx, T.cl_Trial, T.na_Trial_desk, (by simp), ?_⟩
    refine ⟨_, rfl, p, _, dxp, _, _, rfl, (upd_ne ne).trans hp, T.cl_Desk, T.na_Desk_kept, dF_kept _ _, _, rfl, x, _, dx, _, rfl, upd_same, T.cl_Trial, T.na_Trial_before, (by simp [putF]), ?_⟩
    rw [put2 (by decide +kernel)]
    exact q _ (keep_upd (keep_upd Keep.refl)) ⟨dx, upd_same⟩
def spTrial (K : PySem.W.Frag) : Sp := fun vs H Q _ => ∃ p dxp b k, vs = [.ref p] ∧ H p = some (.ins (He.ga K "Desk") dxp (dF b k)) ∧ ∀ x H', H x = none → Same H H' → TrAt K H' x p k → Q (.ref x) H'
theorem k_trial (T : Tx K mg) : Met P w K mg base 3 (He.ga K "Desk") "trial" (spTrial K) [] := by
  obtain ⟨fd, F⟩ := T.F_Desk_trial
  refine metOf F (bDesk_trial F) T.cl_Desk T.m_Desk_trial scDesk_trial (fun vs H Q E h => ?_) (fun cdv A outer s H vs Q E hr h => ?_)
  · obtain ⟨p, dxp, b, k, rfl, _⟩ := h
    rfl
  · obtain ⟨p, dxp, b, k, rfl, hp, q⟩ := h
    refine ⟨_, pss_one (ps_ret (pe_mk (k_tinit T) hr (by decide) rfl (pa_cons (pv 0) pa_nil))), ?_⟩
    refine ⟨_, rfl, fun x dx' nx nd ne => ?_⟩
    have s0 : Same H (upd (upd H dx' (.own x)) x (.ins (He.ga K "Trial") dx' [])) := made_same nx nd Keep.refl
    exact ⟨x, dx', p, dxp, b, k, rfl, upd_same, s0 _ _ hp, fun H2 k2 t2 => ⟨rfl, q x H2 nx (made_same nx nd k2) t2⟩⟩
def spEnter (K : PySem.W.Frag) : Sp := fun vs H Q _ => ∃ x p k0 tb m hs fl, vs = [.ref x] ∧ TrAt K H x p k0 ∧ DeskAt K H p tb m hs fl ∧ hs.length ≤ 200 ∧
  ∀ H' k, Keep [x, p] H H' → TrAt K H' x p k → KeptAt K H' k hs fl → DeskAt K H' p tb m hs hs.length → Q (.ref p) H'
theorem tr_ne {H : Hp} {x p k0 tb : Addr} {m : Mo} {hs : Hist} {fl : Nat} (h1 : TrAt K H x p k0) (h2 : DeskAt K H p tb m hs fl) : p ≠ x := fun z => by
  obtain ⟨dx, a⟩ := h1
  obtain ⟨dy, b, k, c, _⟩ := h2
  rw [z, a] at c
  injection c with c
  injection c with _ _ e
  injection e with e1 e2
  injection e1 with e3 e4
  exact absurd e3 (by decide +kernel)
theorem k_enter (T : Tx K mg) : ∃ f fd, Meth K (He.ga K "Trial") "__enter__" f ∧ FnOk P w K mg base CX0 1 f fd ["self"] (spEnter K) ∧ Binds K fd ["self"] [] := by
  obtain ⟨fd, F⟩ := T.F_Trial_enter
  refine ⟨_, fd, T.m_Trial_enter, fnOf (st := sTrial_enter) F scTrial_enter (fun vs H Q E h => ?_) (fun cdv A outer s H vs Q E hr h => ?_), bTrial_enter F⟩
  · obtain ⟨x, p, k0, tb, m, hs, fl, rfl, _⟩ := h
    rfl
  · obtain ⟨x, p, k0, tb, m, hs, fl, rfl, hx, hd, hz, q⟩ := h
    have ne := tr_ne hx hd
    obtain ⟨dx, hx⟩ := hx
    obtain ⟨dxp, b, k, t, ns, h1, h2, h3, h4, nv, h5, h6⟩ := desk_ins hd
    have hnl : nv.length = hs.length := by rw [paired_len h6, notes_len]
    refine ⟨_, pss_cons (ps_fld (pv 0) (pe_fld (pe_fld (pv 0) rfl) rfl) rfl)
      (pss_cons (ps_fld (pe_fld (pv 0) rfl) (pe_tup (pa_cons (pe_ix ix_tup (pe_fld (pv 0) rfl) pe_int (fun _ _ => rfl)) (pa_cons (pe_ix ix_tup (pe_fld (pv 0) rfl) pe_int (fun _ _ => rfl))
        (pa_cons (pe_callB call_len_seq rfl T.n_len PySem.boot_len (pa_cons (pe_ix ix_tup (pe_fld (pv 0) rfl) pe_int (fun _ _ => rfl)) pa_nil)) pa_nil)))) rfl)
      (pss_one (ps_ret (pe_fld (pv 0) rfl)))), ?_⟩
    refine ⟨_, rfl, x, _, dx, _, _, rfl, hx, T.cl_Trial, T.na_Trial_desk, trF_desk _ _, p, _, dxp, _, _, rfl, h1, T.cl_Desk, T.na_Desk_kept, dF_kept _ _, _, rfl, x, _, dx, _, rfl, hx, T.cl_Trial, T.na_Trial_before, (by simp [trF]), ?_⟩
    rw [trF_put]
    have k1 : Keep [x] H (upd H x (.ins (He.ga K "Trial") dx (trF p k))) := keep_upd Keep.refl
    have i1 : Imm [] H (upd H x (.ins (He.ga K "Trial") dx (trF p k))) := imm1 k1 hx (ins_nf (by simp))
    have hx1 : upd H x (.ins (He.ga K "Trial") dx (trF p k)) x = some (.ins (He.ga K "Trial") dx (trF p k)) := upd_same
    generalize upd H x (.ins (He.ga K "Trial") dx (trF p k)) = H1 at k1 i1 hx1 ⊢
    have hp1 : H1 p = some (.ins (He.ga K "Desk") dxp (dF b k)) := k1 _ _ h1 (by simpa using ne)
    have fx : ∀ {H' : Hp}, Same H1 H' → H' x = some (.ins (He.ga K "Trial") dx (trF p k)) := fun e => e _ _ hx1
    refine ⟨_, rfl, x, _, dx, _, _, rfl, hx1, T.cl_Trial, T.na_Trial_before, trF_before _ _, k, _, 0, _, rfl, rfl, i1.t h3, rfl, ?_⟩
    refine ⟨_, rfl, x, _, dx, _, _, rfl, hx1, T.cl_Trial, T.na_Trial_before, trF_before _ _, k, _, 1, _, rfl, rfl, i1.t h3, rfl, ?_⟩
    refine ⟨_, rfl, x, _, dx, _, _, rfl, hx1, T.cl_Trial, T.na_Trial_before, trF_before _ _, k, _, 1, _, rfl, rfl, i1.t h3, rfl, ns, _, rfl, .inr (i1.t h5), ?_⟩
    rw [List.length_map, hnl]
    refine ⟨line_of (by simp), fun p3 hp3 => ?_⟩
    have e3 := same_new (o := .tup [.ref t, .ref ns, .int (hs.length : Int)]) hp3
    have t3 : SqT K (upd H1 p3 (.tup [.ref t, .ref ns, .int (hs.length : Int)])) p3 [.ref t, .ref ns, iv hs.length] := new_t
    have hx2 := e3 _ _ hx1
    have hp2 := e3 _ _ hp1
    have i2 := i1.trans (Imm.of (Fx := []) e3)
    have k2 : Keep [x] H _ := k1.trans (Keep.of e3)
    generalize upd H1 p3 (.tup [.ref t, .ref ns, .int (hs.length : Int)]) = H2 at t3 hx2 hp2 i2 k2 ⊢
    refine ⟨_, rfl, x, _, dx, _, _, rfl, hx2, T.cl_Trial, T.na_Trial_desk, trF_desk _ _, p, _, dxp, _, rfl, hp2, T.cl_Desk, T.na_Desk_kept, (by simp [dF]), ?_⟩
    rw [dF_put]
    have k3 : Keep [p] H2 (upd H2 p (.ins (He.ga K "Desk") dxp (dF b p3))) := keep_upd Keep.refl
    have i3 : Imm [] H2 (upd H2 p (.ins (He.ga K "Desk") dxp (dF b p3))) := imm1 k3 hp2 (ins_nf (by simp))
    have i4 := i2.trans i3
    have hx3 := k3 _ _ hx2 (by simpa using ne.symm)
    refine ⟨_, rfl, x, _, dx, _, _, rfl, hx3, T.cl_Trial, T.na_Trial_desk, trF_desk _ _, ?_⟩
    exact q _ k ((k2.mono (by simp)).trans (k3.mono (by simp))) ⟨dx, hx3⟩ ⟨t, ns, i4.t h3, i4.t h4, nv, i4.t h5, paired_imp h6 fun _ _ z => z.imm i4⟩ ⟨dxp, b, p3, upd_same, i4.t h2, t, ns, i3.t t3, i4.t h4, nv, i4.t h5, paired_imp h6 fun _ _ z => z.imm i4⟩
def spExit (K : PySem.W.Frag) : Sp := fun vs H Q _ => ∃ x a b c p k tb m hs fl hs' fl', vs = [.ref x, a, b, c] ∧ TrAt K H x p k ∧ KeptAt K H k hs fl ∧ DeskAt K H p tb m hs' fl' ∧ ∀ H', Keep [p] H H' → DeskAt K H' p tb m hs fl → Q (.bl false) H'
theorem k_exit (T : Tx K mg) : ∃ f fd ps, Meth K (He.ga K "Trial") "__exit__" f ∧ FnOk P w K mg base CX0 1 f fd ps (spExit K) ∧ FnM P w K mg base CX0 1 f fd ps (spExit K) ∧ Binds K fd ps [] := by
  obtain ⟨fd, F⟩ := T.F_Trial_exit
  have sem : ∀ {H : Hp} {vs : List V} {Q : VK} {E : XK}, spExit K vs H Q E → tSeq (sFld K (tFld K (tVar 0) "desk") (tFld K (tVar 0) "before") "kept") (tRet (tC (.bl false))) { nx := fun _ H' => Q .non H', rt := Q } (start ["self", "kind", "error", "trace"] vs) H := by
    intro H vs Q E h
    obtain ⟨x, a, b, c, p, k, tb, m, hs, fl, hs', fl', rfl, ⟨dx, hx⟩, hk, ⟨dxp, bb, k', h1, h2, _⟩, q⟩ := h
    refine ⟨_, rfl, x, _, dx, _, _, rfl, hx, T.cl_Trial, T.na_Trial_before, trF_before _ _, _, rfl, x, _, dx, _, _, rfl, hx, T.cl_Trial, T.na_Trial_desk, trF_desk _ _, p, _, dxp, _, rfl, h1, T.cl_Desk, T.na_Desk_kept, (by simp [dF]), ?_⟩
    rw [dF_put]
    have k3 : Keep [p] H (upd H p (.ins (He.ga K "Desk") dxp (dF bb k))) := keep_upd Keep.refl
    have i3 : Imm [] H (upd H p (.ins (He.ga K "Desk") dxp (dF bb k))) := imm1 k3 h1 (ins_nf (by simp))
    exact q _ k3 ⟨dxp, bb, k, upd_same, i3.t h2, hk.imm i3⟩
  have len : ∀ vs H Q E, spExit K vs H Q E → vs.length = (["self", "kind", "error", "trace"] : List Str).length := fun vs H Q E h => by
    obtain ⟨x, a, b, c, p, k, tb, m, hs, fl, hs', fl', rfl, _⟩ := h
    rfl
  refine ⟨_, fd, _, T.m_Trial_exit, F.ok scTrial_exit len (fun cdv A outer s H vs Q E hr h => ⟨_, pss_cons (ps_fld (pe_fld (pv 0) rfl) (pe_fld (pv 0) rfl) rfl) (pss_one (ps_ret pe_bl)), sem h⟩),
    fnM_of F scTrial_exit len (fun cdv A outer s H vs Q E h => ⟨_, pss_cons (ps_fld (pe_fld (pv 0) rfl) (pe_fld (pv 0) rfl) rfl) (pss_one (ps_ret pe_bl)), sem h⟩), bTrial_exit F⟩
end
end Des
end T_D9
section T_D10
set_option linter.all false
set_option maxRecDepth 100000
set_option maxHeartbeats 2000000
namespace Des
open PySem PySem.Spec PyProof.Rows L2
open C8 (Cal Met Mak pe_c pe_mk pe_mt pe_mt0)
open StX (pa_star)
open NdefX
/-! ### cells and data -/
section
variable {K : PySem.W.Frag} {Fx S : List Addr} {H H' : Hp} {cs : Cs}
theorem imm_del (t : Trk cs H) (nf : ∀ a ∈ Fx, cs.lookup a = none) : Imm Fx H (delC cs H) := fun a o e f => by
  cases q : cs.lookup a with
  | none => exact (delC_out q).trans e
  | some ob =>
    rw [t a ob q] at e
    have e := Option.some.inj e
    subst e
    rcases f with f | ⟨xs, f⟩ | ⟨ob', xs, f⟩
    · rw [nf a f] at q; cases q
    · cases f
    · injection f with _ f; cases f
theorem del_sub {a : Addr} {o : HO} (e : delC cs H a = some o) : H a = some o ∧ cs.lookup a = none := by
  cases q : cs.lookup a with
  | none => exact ⟨(delC_out q).symm.trans e, rfl⟩
  | some ob => rw [delC_on q] at e; cases e
theorem same_undel : Same (delC cs H) H := fun a o e => (del_sub e).1
theorem same_add (u : Unt cs H) : Same H (addC cs H) := fun a o e => by
  cases q : cs.lookup a with
  | none => exact (addC_out q).trans e
  | some ob => rw [u a ob q] at e; cases e
/-- all but the objects at S and the code tables is kept -/
def KeepN (S : List Addr) (H H' : Hp) : Prop := ∀ a o, H a = some o → a ∉ S → (∀ ps, o ≠ .tbl ps) → H' a = some o
theorem KeepN.of {S : List Addr} {H H' : Hp} (k : Keep S H H') : KeepN S H H' := fun a o e n _ => k a o e n
theorem KeepN.trans {S : List Addr} {H H1 H2 : Hp} (a : KeepN S H H1) (b : KeepN S H1 H2) : KeepN S H H2 := fun x o h n t => b x o (a x o h n t) n t
theorem KeepN.mono {S S' : List Addr} {H H' : Hp} (k : KeepN S H H') (h : ∀ a ∈ S, a ∈ S') : KeepN S' H H' := fun a o e n t => k a o e (fun z => n (h a z)) t
theorem KeepN.imm {Fx S : List Addr} {H H' : Hp} (k : KeepN S H H') (n : ∀ a ∈ S, ∀ o, H a = some o → ¬ Fxd Fx a o) (ft : ∀ a ∈ Fx, ∀ ps, H a ≠ some (.tbl ps)) : Imm Fx H H' := fun a o h f => k a o h (fun z => n a z o h f) fun ps z => by
  subst z
  rcases f with f | ⟨xs, f⟩ | ⟨ob, xs, f⟩
  · exact ft a f ps h
  · cases f
  · cases f
theorem KeepN.imm0 {S : List Addr} {H H' : Hp} (k : KeepN S H H') (n : ∀ a ∈ S, ∀ o, H a = some o → ¬ Fxd [] a o) : Imm [] H H' := k.imm n fun a ha => by simp at ha
theorem keepN_cells (t : Trk cs H) (k : KeepN S (delC cs H) H') : KeepN S H (addC cs H') := fun a o e n nt => by
  cases q : cs.lookup a with
  | none =>
    rw [addC_out q]
    exact k a o ((delC_out q).trans e) n nt
  | some ob =>
    rw [addC_on q, ← t a ob q]
    exact e
theorem keepN_uncells (u : Unt cs H) (k : KeepN S (addC cs H) H') : KeepN S H (delC cs H') := fun a o e n nt => by
  cases q : cs.lookup a with
  | none =>
    rw [delC_out q]
    exact k a o ((addC_out q).trans e) n nt
  | some ob => rw [u a ob q] at e; cases e
/-- kept without the cells, kept with them -/
theorem keep_cells (t : Trk cs H) (k : Keep S (delC cs H) H') : Keep S H (addC cs H') := fun a o e n => by
  cases q : cs.lookup a with
  | none =>
    rw [addC_out q]
    exact k a o ((delC_out q).trans e) n
  | some ob =>
    rw [addC_on q, ← t a ob q]
    exact e
theorem keep_uncells (u : Unt cs H) (k : Keep S (addC cs H) H') : Keep S H (delC cs H') := fun a o e n => by
  cases q : cs.lookup a with
  | none =>
    rw [delC_out q]
    exact k a o ((addC_out q).trans e) n
  | some ob => rw [u a ob q] at e; cases e
theorem keep_trk (t : Trk cs H) (k : Keep S H H') (n : ∀ a ∈ S, cs.lookup a = none) : Trk cs H' := fun b o e => k b _ (t b o e) fun z => by rw [n b z] at e; cases e
end
section
variable {P : Program} {w : World} {K : PySem.W.Frag} {mg : Str → Option Value} {base : Heap}
/-! ### attempt -/
def spAtt (P : Program) (w : World) (K : PySem.W.Frag) (mg : Str → Option Value) (base : Heap) (j : Nat) : Sp := fun vs H Q E => ∃ (p f tb : Addr) (m : Mo) (hs : Hist) (fl : Nat) (S : List Addr) (PV : V → Hp → Prop) (PX : Value → Option Addr → Hp → Prop) (F : NF) (cs : Cs) (fr ps : List Str) (ws : List (Option V)) (k : Nat) (sp : List (Option V) → Sp),
  vs = [.ref p, .ref f] ∧ H f = some (FnO f F) ∧ H F.c = some (LamX.CodeO F.c F.qual) ∧ Trk cs H ∧ NOk P w K mg base (L2.CX P w) k f F ps fr sp ∧ k ≤ j ∧ CSpec F.cl fr ws cs ∧ DeskAt K H p tb m hs fl ∧ hs.length ≤ 200 ∧ (∀ a ∈ S, ∃ o, H a = some o ∧ ¬ Fxd [] a o) ∧ p ∈ S ∧
  (∀ H1 (Q' : VK) (E' : XK), Keep [p] H H1 → DeskAt K H1 p tb m hs hs.length → (∀ v H2, KeepN S H1 H2 → (∃ hs' fl', DeskAt K H2 p tb m hs' fl') → PV v H2 → Q' v H2) →
    (∀ c d H2, (∃ cv, RelV cv c) → KeepN S H1 H2 → (∃ hs' fl', DeskAt K H2 p tb m hs' fl') → PX c d H2 → E' c d H2) → sp ws [.ref p] (delC cs H1) (fun v H' => Unt cs H' → Q' v (addC cs H')) (fun c d H' => Unt cs H' → E' c d (addC cs H'))) ∧
  (∀ v H2 H3, PV v H2 → Keep [p] H2 H3 → KeepN S H H3 → DeskAt K H3 p tb m hs fl → Q v H3) ∧ (∀ c d H2 H3, PX c d H2 → Keep [p] H2 H3 → KeepN S H H3 → DeskAt K H3 p tb m hs fl → E c d H3)
theorem k_att (T : Tx K mg) (j : Nat) (hj : 4 ≤ j) : MetX P w K mg base (j + 1) (He.ga K "Desk") "attempt" (spAtt P w K mg base j) := by
  obtain ⟨fd, F⟩ := T.F_Desk_attempt
  obtain ⟨fE, fdE, mE, FE, bE⟩ := k_enter (P := P) (w := w) (base := base) T
  obtain ⟨fX, fdX, psX, mX, FX, FM, bX⟩ := k_exit (P := P) (w := w) (base := base) T
  refine metXOf F (bDesk_attempt F) T.cl_Desk T.m_Desk_attempt scDesk_attempt (fun vs H Q E h => ?_) (fun cdv A outer s H vs Q E hr h => ?_)
  · obtain ⟨p, f, tb, m, hs, fl, S, PV, PX, F', cs, fr, ps, ws, k, sp, rfl, _⟩ := h
    rfl
  · obtain ⟨p, f, tb, m, hs, fl, S, PV, PX, F', cs, fr, ps, ws, k, sp, rfl, hf, hc, ht, hN, hk, hC, hd, hz, hS, hpS, hb, q1, q2⟩ := h
    obtain ⟨dx, b, kk, h1, h2, h3⟩ := id hd
    refine ⟨_, pss_cons (ps_withX (i := 2) (tb := fun W => tAsg (tClo (cxOf (L2.CX P w) P w K mg base ["self", "work", "desk", "found"] "Desk.attempt" (defScope sDesk_attempt) (He.ma K (He.ga K "Desk") "attempt") cdv A outer s H E) j 1 (WE W) (tCons (tVar 2) tNil)) (gName 3)) rfl rfl rfl scDesk_attempt.nd rfl (Or.inl rfl) (takes_of rfl rfl rfl rfl) (pe_mt0 (k_trial T) hr (by omega) (pv 0)) mE mX FE FX FM (hr.mono (by omega)) (hr.mono (by omega)) bE bX
        (fun W pn xe tk => pss_one (ps_set (i := 3) scDesk_attempt.nd rfl (Or.inl rfl) (pe_clo (i := 1) hr tk rfl (Or.inl rfl) (pa_cons (pv 2) pa_nil)))))
      (pss_one (ps_ret (pv 3))), ?_⟩
    refine ⟨_, rfl, p, dx, _, rfl, h1, dF_no _ _ (by decide +kernel) (by decide +kernel), p, dx, b, kk, rfl, h1, fun x H1 nx s1 tr1 => ?_⟩
    obtain ⟨dxt, hx⟩ := id tr1
    refine ⟨x, dxt, _, rfl, hx, x, p, kk, tb, m, hs, fl, rfl, tr1, hd.same s1, hz, fun H2 kp k2 tr2 kpt d2 => ?_⟩
    have kp2 : Keep [p] H H2 := ((Keep.of s1).trans k2).drop nx
    have nf : f ≠ p := fun z => by
      rw [z, h1] at hf
      unfold FnO at hf
      cases hf
    have nc : F'.c ≠ p := fun z => by
      rw [z, h1] at hc
      unfold LamX.CodeO at hc
      cases hc
    have nt : cs.lookup p = none := by
      cases e : cs.lookup p with
      | none => rfl
      | some o =>
        have := ht p o e
        rw [h1] at this
        cases this
    have hf2 : H2 f = some (FnO f F') := kp2 _ _ hf (by simpa using nf)
    have hc2 : H2 F'.c = some (LamX.CodeO F'.c F'.qual) := kp2 _ _ hc (by simpa using nc)
    have ht2 : Trk cs H2 := keep_trk ht kp2 (by simpa using nt)
    have hxS : x ∉ S := fun z => by
      obtain ⟨o, e, _⟩ := hS x z
      rw [nx] at e
      cases e
    have hfx : ∀ a ∈ S, ∀ o, H2 a = some o → ¬ Fxd [] a o := fun a ha o e => by
      by_cases z : a = p
      · subst z
        obtain ⟨_, b2, k2', e2, _⟩ := id d2
        rw [e2] at e
        rw [← Option.some.inj e]
        exact ins_nf (by simp)
      · obtain ⟨o', e', n'⟩ := hS a ha
        have e2 := kp2 _ _ e' (by simpa using z)
        rw [e2] at e
        rw [← Option.some.inj e]
        exact n'
    refine ⟨f, F', cs, fr, ps, ws, k, sp, rfl, hf2, hN, hk, hC, _, rfl, hf2, hc2, ht2, ?_⟩
    refine hb H2 _ _ kp2 d2 (fun v H3 k3 ⟨hs', fl', d3⟩ pv => ?_) (fun c d H3 rv k3 ⟨hs', fl', d3⟩ px => ?_)
    · have i3 : Imm [] H2 H3 := k3.imm0 hfx
      obtain ⟨dx2, tx2⟩ := tr2
      refine ⟨x, .non, .non, .non, p, kp, tb, m, hs, fl, hs', fl', rfl, ⟨dx2, k3 _ _ tx2 hxS (fun _ => by simp)⟩, kpt.imm i3, d3, fun H4 k4 d4 => ⟨_, rfl, q1 v H3 H4 pv k4 ?_ d4⟩⟩
      exact ((KeepN.of (kp2.mono (by simpa using hpS))).trans k3).trans (KeepN.of (k4.mono (by simpa using hpS)))
    · have i3 : Imm [] H2 H3 := k3.imm0 hfx
      obtain ⟨dx2, tx2⟩ := tr2
      obtain ⟨cv, rv⟩ := rv
      refine ⟨cv, rv, fun a t na => ⟨x, cv, .ref a, t, p, kp, tb, m, hs, fl, hs', fl', rfl, ⟨dx2, k3 _ _ tx2 hxS (fun _ => by simp)⟩, kpt.imm i3, d3, fun H4 k4 d4 => ⟨rfl, q2 c d H3 H4 px k4 ?_ d4⟩⟩⟩
      exact ((KeepN.of (kp2.mono (by simpa using hpS))).trans k3).trans (KeepN.of (k4.mono (by simpa using hpS)))
end
end Des
end T_D10
section T_D11
set_option linter.all false
set_option maxRecDepth 100000
set_option maxHeartbeats 600000
namespace Des
open PySem PySem.Spec PyProof.Rows L2
open C8 (Cal Met Mak pe_c pe_mk pe_mt pe_mt0)
open StX (pa_star)
section
variable {P : Program} {w : World} {K : PySem.W.Frag} {mg : Str → Option Value} {base : Heap}
theorem boot_int_ : bootBuiltins "int" = some (.type "int") := by decide +kernel
theorem boot_all_ : bootBuiltins "all" = some (.builtin "all") := by decide +kernel
theorem boot_list_ : bootBuiltins "list" = some (.type "list") := by decide +kernel
theorem k_lbare6 (T : Tx K mg) : Cal P w K mg base 9 "_law_bare" (spLBare K 6) [] := k_lbare T 6
/-! ### the law's is_tame -/
def spLTame (K : PySem.W.Frag) : Sp := fun vs H Q _ => ∃ md m a t, vs = [.ref md, .ref a] ∧ ModAt K H md m ∧ m.Ok ∧ TI K H a t ∧ Vt m t ∧ ∀ H', Same H H' → Q (.bl (m.tame t)) H'
theorem k_ltame (T : Tx K mg) : Cal P w K mg base 10 "_law_is_tame" (spLTame K) [] := by
  obtain ⟨fd, F⟩ := T.F_L_is_tame
  refine calOf F (bL_is_tame F) T.g__law_is_tame scL_is_tame (fun vs H Q E h => ?_) (fun cdv A outer s H vs Q E hr h => ?_)
  · obtain ⟨md, m, a, t, rfl, _⟩ := h
    rfl
  · obtain ⟨md, m, a, t, rfl, ht, ok, hT, hv, q⟩ := h
    obtain ⟨c, r, s', h1, h2, h3, h4⟩ := ht.ex
    refine ⟨_, pss_cons (ps_set (i := 2) scL_is_tame.nd rfl (Or.inl rfl) pe_int)
      (pss_cons (ps_for PassesOwn.never rfl (pi_tup (pv 1)) (pg_name (i := 3) scL_is_tame.nd rfl (Or.inl rfl))
        (pss_cons (ps_if (PW.pt (pw_or (pt_not (pt_val (pe_callB call_isi rfl T.n_isinstance (by decide +kernel) (pa_cons (pv 3) (pa_cons (pe_bltn (v := .ty "int") rfl T.n_int (by decide +kernel) rfl) pa_nil)))))
            (pw_or (pt_val (pe_callB call_isi rfl T.n_isinstance (by decide +kernel) (pa_cons (pv 3) (pa_cons (pe_bltn (v := .ty "bool") rfl T.n_bool (by decide +kernel) rfl) pa_nil))))
              (pw_or1 (pt_not (pt_chain op_le op_lt pe_int (pv 3) (pe_callB call_len_seq rfl T.n_len PySem.boot_len (pa_cons (pe_ix ix_tup (pv 0) pe_int (fun _ _ => rfl)) pa_nil))))))))
            (pss_one ps_never) pss_nil)
        (pss_one (ps_for PassesOwn.never rfl (pi_list (pe_c (k_lbare6 T) hr (by decide) rfl (pa_cons (pv 0) (pa_cons (pv 3) pa_nil)))) (pg_name (i := 4) scL_is_tame.nd rfl (Or.inl rfl))
          (pss_cons (ps_set (i := 2) scL_is_tame.nd rfl (Or.inl rfl) (pe_ifExp (pt_cmpR op_gt (pe_ix ix_tup (pe_ix ix_tup (pv 0) pe_int (fun _ _ => rfl)) (pv 4) (fun _ _ => rfl)) pe_int (nomark _)) (pe_op op_add (pv 2) pe_int) pe_int))
          (pss_one (ps_if (pt_cmpR op_gt (pv 2) pe_int (nomark _)) (pss_one (ps_ret pe_bl)) pss_nil)))))))
      (pss_one (ps_ret pe_bl))), ?_⟩
    refine ⟨_, rfl, a, rfl, ⟨_, hT⟩, ?_⟩
    refine for_tN (f := iv) (ns := t) (fun p σ H' => Same H H' ∧ m.tameB 0 (m.flat p) = true ∧ ∃ o3 o4, σ = [some (.ref md), some (.ref a), some (iv (m.runs 0 (m.flat p))), o3, o4]) ⟨Same.refl _, rfl, _, _, rfl⟩
      (fun p σ H' hp => same_t hp.1 hT) (fun p x l σ H' ec hp => ?_) (fun σ H' hp => ?_)
    · obtain ⟨sm, tm, o3, o4, rfl⟩ := hp
      have hx : x < m.n := hv x (by rw [ec]; simp)
      refine ⟨_, rfl, _, _, _, _, _, rfl, .ty "int", .base (.int (x : Int)), kInt_int, _, rfl, iteF ?_⟩
      refine ⟨_, rfl, _, _, _, _, _, rfl, .ty "bool", .base (.int (x : Int)), kInt_bool, _, rfl, iteF ?_⟩
      refine ⟨_, rfl, _, _, rfl, rfl, _, rfl, ?_⟩
      rw [show decide ((0 : Int) ≤ ((x : Nat) : Int)) = true from decide_eq_true (by omega)]
      refine iteT ⟨_, rfl, md, _, 0, _, rfl, rfl, same_t sm h1, rfl, c, _, rfl, .inr (same_t sm h2), _, _, rfl, rfl, _, rfl, ?_⟩
      rw [show decide (((x : Nat) : Int) < (((List.map iv m.cl).length : Nat) : Int)) = true from decide_eq_true (by rw [List.length_map]; unfold Mo.n at hx; omega)]
      refine iteF ?_
      refine ⟨_, rfl, _, rfl, md, m, x, rfl, ht.same sm, ok, hx, lt6 ok hx, fun u Hu smu hu1 _ => ⟨u, rfl, ⟨_, sqL hu1⟩, ?_⟩⟩
      have sm3 := sm.trans smu
      refine for_lN (f := iv) (ns := m.bare x) (fun p' σ H' => Same Hu H' ∧ m.tameB 0 (m.flat p ++ p') = true ∧ ∃ o4, σ = [some (.ref md), some (.ref a), some (iv (m.runs 0 (m.flat p ++ p'))), some (iv x), o4]) ⟨Same.refl _, by simpa using tm, _, by simp; rfl⟩
        (fun p σ H' hp => Evl.ex_l hp.1 (sqL hu1)) (fun p' y r' σ H' ec' hp' => ?_) (fun σ H' hp' => ?_)
      · obtain ⟨smv, tm', o4, rfl⟩ := hp'
        have sm4 := sm3.trans smv
        have hy : y < m.n := bare_lt ok (x + 1) x (by omega) hx y (by rw [ec']; simp)
        refine ⟨_, rfl, md, _, 0, _, rfl, rfl, same_t sm4 h1, rfl, _, rfl, c, _, (y : Nat), _, rfl, rfl, same_t sm4 h2, atI_nat (cl_get hy), _, _, rfl, rfl, _, rfl, ?_⟩
        by_cases c0 : 0 < m.c y
        · rw [show decide ((0 : Int) < ((m.c y : Nat) : Int)) = true from decide_eq_true (by omega)]
          refine iteT ⟨_, rfl, _, (1 : Int), rfl, rfl, ?_⟩
          dsimp only
          rw [show (((m.runs 0 (m.flat p ++ p') : Nat) : Int) + 1) = ((m.run (m.runs 0 (m.flat p ++ p')) y : Nat) : Int) from by unfold Mo.run; rw [if_pos c0]; rfl]
          refine ⟨_, rfl, _, _, rfl, rfl, _, rfl, ?_⟩
          by_cases cr : m.run (m.runs 0 (m.flat p ++ p')) y ≤ 2
          · rw [show decide ((2 : Int) < ((m.run (m.runs 0 (m.flat p ++ p')) y : Nat) : Int)) = false from decide_eq_false (by omega)]
            refine iteF ⟨smv, ?_, some (iv y), ?_⟩
            · rw [← List.append_assoc, tameB_snoc, tm', decide_eq_true cr]
              rfl
            · rw [← List.append_assoc, runs_snoc]
              rfl
          · rw [show decide ((2 : Int) < ((m.run (m.runs 0 (m.flat p ++ p')) y : Nat) : Int)) = true from decide_eq_true (by omega)]
            have := q _ sm4
            rw [show m.tame t = false from by
              unfold Mo.tame
              rw [ec, flat_app, flat_cons, ec', show m.flat p ++ (p' ++ y :: r' ++ m.flat l) = ((m.flat p ++ p') ++ [y]) ++ (r' ++ m.flat l) by simp]
              rw [tameB_app, tameB_snoc, decide_eq_false cr]
              simp] at this
            exact iteT this
        · rw [show decide ((0 : Int) < ((m.c y : Nat) : Int)) = false from decide_eq_false (by omega)]
          refine iteF ?_
          rw [show (V.int 0) = iv (m.run (m.runs 0 (m.flat p ++ p')) y) from by unfold Mo.run; rw [if_neg c0]; rfl]
          refine ⟨_, rfl, _, _, rfl, rfl, _, rfl, ?_⟩
          by_cases cr : m.run (m.runs 0 (m.flat p ++ p')) y ≤ 2
          · rw [show decide ((2 : Int) < ((m.run (m.runs 0 (m.flat p ++ p')) y : Nat) : Int)) = false from decide_eq_false (by omega)]
            refine iteF ⟨smv, ?_, some (iv y), ?_⟩
            · rw [← List.append_assoc, tameB_snoc, tm', decide_eq_true cr]
              rfl
            · rw [← List.append_assoc, runs_snoc]
              rfl
          · rw [show decide ((2 : Int) < ((m.run (m.runs 0 (m.flat p ++ p')) y : Nat) : Int)) = true from decide_eq_true (by omega)]
            have := q _ sm4
            rw [show m.tame t = false from by
              unfold Mo.tame
              rw [ec, flat_app, flat_cons, ec', show m.flat p ++ (p' ++ y :: r' ++ m.flat l) = ((m.flat p ++ p') ++ [y]) ++ (r' ++ m.flat l) by simp]
              rw [tameB_app, tameB_snoc, decide_eq_false cr]
              simp] at this
            exact iteT this
      · obtain ⟨smv, tm', o4, rfl⟩ := hp'
        refine ⟨sm3.trans smv, ?_, some (iv x), o4, ?_⟩
        · rw [flat_snoc]; exact tm'
        · rw [flat_snoc]
    · have := q _ hp.1
      rw [show m.tame t = true from hp.2.1] at this
      exact this
/-! ### joined -/
theorem late_ok2 {te : TE} {σ : L2.St} {H : Hp} {c : Bool} {Qv : VK} {o : Option Nat} (k : ∀ H3, Same H H3 → Qv (ov o) H3) (h1 : c = false → (∀ H3, Same H H3 → Qv (ov o) H3) → te σ H Qv) (h2 : c = true → o = none) : if c = true then Qv .non H else te σ H Qv := by
  cases e : c with
  | false => exact iteF (h1 e k)
  | true =>
    have z := k H (Same.refl _)
    rw [h2 e] at z
    exact iteT z
theorem or_okS {tb : TE} {σ : L2.St} {H : Hp} {c b : Bool} {Qv : VK} (k : ∀ H3, Same H H3 → Qv (.bl b) H3) (h1 : c = true → b = true) (h2 : c = false → (∀ b' H3, b' = b → Same H H3 → Qv (.bl b') H3) → tb σ H Qv) : ∃ c', V.bl c = .bl c' ∧ if c' = true then Qv (.bl true) H else tb σ H Qv := by
  refine ⟨c, rfl, ?_⟩
  cases e : c with
  | true =>
    have z := k H (Same.refl _)
    rw [h1 e] at z
    exact iteT z
  | false => exact iteF (h2 e fun b' H3 e s => by rw [e]; exact k H3 s)
theorem yes_ok {te : TE} {σ : L2.St} {H : Hp} {R1 : V → Hp → Prop} {B : Hp → Prop} (h : te σ H R1) : tYes σ H fun c H3 => if c = true then te σ H3 R1 else B H3 := by
  unfold tYes
  show (if true = true then _ else _)
  exact iteT h
theorem dec_lt (a b : Nat) : decide ((a : Int) < (b : Int)) = decide (a < b) := by
  by_cases h : a < b
  · rw [decide_eq_true h, decide_eq_true (by omega)]
  · rw [decide_eq_false h, decide_eq_false (by omega)]
def StOk (m : Mo) (st : Jst) (n : Nat) : Prop := Vt m st.1 ∧ st.1.length ≤ n ∧ st.2.2.length ≤ n ∧ ∀ i, st.2.1 = some i → i < st.1.length
theorem getD_at {l : List Nat} {i : Nat} (h : i < l.length) : l[i]? = some (l.getD i 0) := by
  rw [List.getD_eq_getElem?_getD, List.getElem?_eq_getElem h]
  rfl
theorem vt_getD {m : Mo} {l : List Nat} {i : Nat} (v : Vt m l) (h : i < l.length) : l.getD i 0 < m.n := v _ (List.mem_of_getElem? (getD_at h))
theorem jstep_ok {m : Mo} (ok : m.Ok) {st : Jst} {n x : Nat} (h : StOk m st n) (hx : x < m.n) : StOk m (m.jStep st x) (n + 1) := by
  obtain ⟨f, b, k⟩ := st
  obtain ⟨h1, h2, h3, h4⟩ := h
  have h1 : Vt m f := h1
  have h2 : f.length ≤ n := h2
  have h3 : k.length ≤ n := h3
  have h4 : ∀ i, b = some i → i < f.length := h4
  have hap : Vt m (f ++ [x]) := fun s hs => by
    rcases List.mem_append.mp hs with q | q
    · exact h1 s q
    · rw [List.mem_singleton] at q; rw [q]; exact hx
  unfold Mo.jStep
  split
  · rename_i e
    rw [Bool.and_eq_true] at e
    have e1 := e.1
    cases hb : b with
    | none =>
      unfold Mo.jLate at e1
      subst hb
      cases e1
    | some i =>
      subst hb
      have hl : m.jLate (f, some i, k) x = m.pair (f.getD i 0) x := rfl
      rw [hl] at e1 ⊢
      obtain ⟨z, hz⟩ := Option.isSome_iff_exists.mp e1
      rw [hz]
      refine ⟨fun s hs => ?_, ?_, ?_, fun j hj => ?_⟩
      · rcases List.mem_or_eq_of_mem_set hs with q | q
        · exact h1 s q
        · rw [q]; exact pair_lt ok hz
      · show (f.set i z).length ≤ n + 1
        rw [List.length_set]; omega
      · show k.length ≤ n + 1
        omega
      · show j < (f.set i z).length
        rw [List.length_set]; exact h4 j hj
  · split
    · refine ⟨hap, ?_, Nat.zero_le _, fun j hj => ?_⟩
      · show (f ++ [x]).length ≤ n + 1
        simp; omega
      · have hj : f.length = j := Option.some.inj hj
        show j < (f ++ [x]).length
        simp; omega
    · refine ⟨hap, ?_, ?_, fun j hj => ?_⟩
      · show (f ++ [x]).length ≤ n + 1
        simp; omega
      · show (k ++ [m.c x]).length ≤ n + 1
        simp; omega
      · show j < (f ++ [x]).length
        have := h4 j hj
        simp; omega
theorem jfold_ok {m : Mo} (ok : m.Ok) : ∀ {l : List Nat}, Vt m l → StOk m (l.foldl m.jStep ([], none, [])) l.length := by
  have go : ∀ (l : List Nat) (st : Jst) (n : Nat), StOk m st n → Vt m l → StOk m (l.foldl m.jStep st) (n + l.length) := by
    intro l
    induction l with
    | nil => intro st n h _; exact h
    | cons x l ih =>
      intro st n h hv
      have := ih (m.jStep st x) (n + 1) (jstep_ok ok h (hv x (by simp))) fun s hs => hv s (by simp [hs])
      rw [List.length_cons, show n + (l.length + 1) = n + 1 + l.length by omega]
      exact this
  intro l hv
  have := go l ([], none, []) 0 ⟨(fun s hs => by simp at hs), Nat.zero_le _, Nat.zero_le _, (fun i h => by cases h)⟩ hv
  rwa [Nat.zero_add] at this
def bV : Option Nat → V
  | none => .non
  | some i => iv i
def spLJoin (K : PySem.W.Frag) : Sp := fun vs H Q _ => ∃ md m a l, vs = [.ref md, .ref a] ∧ ModAt K H md m ∧ m.Ok ∧ H a = some (.lst (l.map iv)) ∧ Vt m l ∧ l.length ≤ 50000 ∧ ∀ u H', Same H H' → TI K H' u (m.joinL l) → Q (.ref u) H'
theorem k_ljoin (T : Tx K mg) : Cal P w K mg base 4 "_law_joined" (spLJoin K) [] := by
  obtain ⟨fd, F⟩ := T.F_L_joined
  refine calOf F (bL_joined F) T.g__law_joined scL_joined (fun vs H Q E h => ?_) (fun cdv A outer s H vs Q E hr h => ?_)
  · obtain ⟨md, m, a, l, rfl, _⟩ := h
    rfl
  · obtain ⟨md, m, a, l, rfl, ht, ok, hl, hv, hz, q⟩ := h
    obtain ⟨c, r, s', h1, h2, h3, h4⟩ := ht.ex
    have hu := hr.units
    refine ⟨_, pss_cons (ps_par3 (i := 2) (j := 3) (l := 4) (by rfl) scL_joined.nd rfl rfl rfl (by decide) (by decide) (by decide) rfl rfl rfl (pa_cons (pe_lst pa_nil) (pa_cons pe_non (pa_cons (pe_lst pa_nil) pa_nil))) (by rfl))
      (pss_cons (ps_for PassesOwn.never rfl (pi_list (pv 1)) (pg_name (i := 5) scL_joined.nd rfl (Or.inr rfl))
        (pss_cons (ps_set (i := 6) scL_joined.nd rfl (Or.inl rfl) (pe_ifExp (pt_cmpR op_isN (pv 3) pe_non (nomark _)) pe_non (pe_c (k_lpair T) hr (by decide) rfl (pa_cons (pv 0) (pa_cons (pe_ix ix_list (pv 2) (pv 3) (fun _ _ => rfl)) (pa_cons (pv 5) pa_nil))))))
        (pss_cons (ps_set (i := 7) scL_joined.nd rfl (Or.inl rfl) (pe_or (pe_cmpR (op_eqD hu) (pv 4) (pe_lst pa_nil) (nomark _)) (pe_one (pe_and (pe_cmpR op_gt (pe_ix ix_tup (pe_ix ix_tup (pv 0) pe_int (fun _ _ => rfl)) (pv 5) (fun _ _ => rfl)) pe_int (nomark _))
            (pe_one (pe_callB (cr_all rfl) rfl T.n_all boot_all_ (pa_cons (pe_lc (own := [("_law_one", 8)]) (g := gName 8) (tt := tYes) (te := tChain (rI0 fun i j => .bl (decide (i < j))) (rI0 fun i j => .bl (decide (i < j))) (tC (.int 0)) (tVar 8) (tOp (rIxT K) (tOp (rIxT K) (tVar 0) (tC (.int 0))) (tVar 5))) rfl scL_joined.nd
              (pi_list (pv 4)) (blkOk_by (own := [("_law_one", 8)]) (N := ["_law_model", "_law_signs", "_law_found", "_law_base", "_law_kept", "_law_sign", "_law_late", "_law_is_free", "_law_one"]) (sc := defScope sL_joined) (by decide +kernel))
              (fun _ _ _ _ _ => pg_name (i := 8) scL_joined.nd rfl (Or.inl rfl)) (fun _ _ _ _ _ => pts_nil) (fun _ _ _ _ _ => pe_chain op_lt op_lt pe_int (pv 8) (pe_ix ix_tup (pe_ix ix_tup (pv 0) pe_int (fun _ _ => rfl)) (pv 5) (fun _ _ => rfl)))) pa_nil)))))))
        (pss_one (ps_if (PW.pt (pw_and (pt_cmp (pc_notN (pv 6))) (pw_and1 (pt_val (pv 7)))))
          (pss_one (ps_asg (pv 6) (pg_sub (pv 2) (pv 3) set_list)))
          (pss_cons (ps_expr (pe_bm PySem.F.plainAttrs_list PySem.F.slot_list_append PySem.F.type_list_append mt_append (pv 2) (pa_cons (pv 5) pa_nil)))
          (pss_cons (ps_set (i := 4) scL_joined.nd rfl (Or.inl rfl) (pe_op op_cat (pv 4) (pe_lst (pa_cons (pe_ix ix_tup (pe_ix ix_tup (pv 0) pe_int (fun _ _ => rfl)) (pv 5) (fun _ _ => rfl)) pa_nil))))
          (pss_one (ps_if (pt_cmpR op_eq (pe_ix ix_tup (pe_ix ix_tup (pv 0) pe_int (fun _ _ => rfl)) (pv 5) (fun _ _ => rfl)) pe_int (nomark _))
            (pss_one (ps_par (i := 3) (j := 4) (by rfl) scL_joined.nd rfl rfl (by decide) rfl rfl (pa_cons (pe_op op_sub (pe_callB call_len_seq rfl T.n_len PySem.boot_len (pa_cons (pv 2) pa_nil)) pe_int) (pa_cons (pe_lst pa_nil) pa_nil)) (by rfl))) pss_nil)))))))))
      (pss_one (ps_ret (pe_callTy call_tuple_of rfl T.n_tuple boot_tuple_ (pa_cons (pv 2) pa_nil))))), ?_⟩
    refine ⟨line_of (by simp), fun fa hfa => ⟨line_of (by simp), fun ka hka => ⟨_, _, _, rfl, ?_⟩⟩⟩
    have hfa1 : upd (upd H fa (.lst [])) ka (.lst []) fa = some (.lst []) := same_new hka _ _ upd_same
    have nk : ka ≠ fa := (ne_of_none upd_same hka).symm
    refine ⟨_, rfl, a, rfl, ⟨_, sqL ((same_new hfa).trans (same_new hka) _ _ hl)⟩, ?_⟩
    refine for_lN (f := iv) (ns := l) (fun p σ H' => Same H H' ∧ ∃ kk o5 o6 o7 o8, kk ≠ fa ∧ H' fa = some (.lst ((p.foldl m.jStep ([], none, [])).1.map iv)) ∧ H' kk = some (.lst ((p.foldl m.jStep ([], none, [])).2.2.map iv)) ∧
        σ = [some (.ref md), some (.ref a), some (.ref fa), some (bV (p.foldl m.jStep ([], none, [])).2.1), some (.ref kk), o5, o6, o7, o8])
      ⟨(same_new hfa).trans (same_new hka), ka, _, _, _, _, nk, hfa1, upd_same, rfl⟩ (fun p σ H' hp => sqL (hp.1 _ _ hl)) (fun p y r' σ H' ec hp => ?_) (fun σ H' hp => ?_)
    · obtain ⟨sm, kk, o5, o6, o7, o8, nkk, hF, hK, rfl⟩ := hp
      have hy : y < m.n := hv y (by rw [ec]; simp)
      have hpl : p.length + 1 ≤ 50000 := by rw [ec] at hz; simp at hz; omega
      obtain ⟨v1, v2, v3, v4⟩ := jfold_ok ok (l := p) fun s hs => hv s (by rw [ec]; simp [hs])
      rw [show (p ++ [y]).foldl m.jStep ([], none, []) = m.jStep (p.foldl m.jStep ([], none, [])) y from by rw [List.foldl_append]; rfl]
      generalize p.foldl m.jStep ([], none, []) = st at hF hK v1 v2 v3 v4 ⊢
      obtain ⟨f, b, k⟩ := st
      have v1 : Vt m f := v1
      have v2 : f.length ≤ p.length := v2
      have v3 : k.length ≤ p.length := v3
      have v4 : ∀ i, b = some i → i < f.length := v4
      have hF : H' fa = some (.lst (f.map iv)) := hF
      have hK : H' kk = some (.lst (k.map iv)) := hK
      have ej : m.jStep (f, b, k) y = if (m.jLate (f, b, k) y).isSome && m.jFree k y then (f.set (b.getD 0) ((m.jLate (f, b, k) y).getD 0), b, k)
        else if m.c y = 0 then (f ++ [y], some f.length, []) else (f ++ [y], b, k ++ [m.c y]) := rfl
      rw [ej]
      refine ⟨_, rfl, rfl, _, rfl, ?_⟩
      refine late_ok2 (o := m.jLate (f, b, k) y) (fun H3 sm3 => ?_) (fun e kq => ?_) (fun e => ?_)
      · -- is_free
        refine ⟨_, rfl, line_of (by simp), fun p5 hp5 => ⟨dL k, dL [], .lst (sqL (same_new hp5 _ _ (sm3 _ _ hK))) (dp_ints _), .lst (sqL upd_same) .nil, shaped_list _, shaped_list _, ?_⟩⟩
        have sm4 := (sm.trans sm3).trans (same_new (o := .lst []) hp5)
        have hF4 : upd H3 p5 (.lst []) fa = some (.lst (f.map iv)) := same_new hp5 _ _ (sm3 _ _ hF)
        have hK4 : upd H3 p5 (.lst []) kk = some (.lst (k.map iv)) := same_new hp5 _ _ (sm3 _ _ hK)
        generalize upd H3 p5 (.lst []) = H4 at sm4 hF4 hK4 ⊢
        rw [eqv_list]
        refine or_okS (b := m.jFree k y) (fun H5 sm5 => ?_) (fun e => ?_) (fun e kq => ?_)
        · -- the branch
          have hF5 := sm5 _ _ hF4
          have hK5 := sm5 _ _ hK4
          have smH := sm4.trans sm5
          refine ⟨_, rfl, _, rfl, ?_⟩
          cases el : m.jLate (f, b, k) y with
          | none =>
            refine iteF (iteF ?_)
            rw [show (Option.isSome (none : Option Nat) && m.jFree k y) = false from rfl, if_neg (by simp)]
            refine ⟨_, rfl, .inl ⟨rfl, _, sqL hF5⟩, _, rfl, fa, _, _, rfl, rfl, hF5, line_lt (by rw [List.length_map]; omega), ?_⟩
            have smA : Same H (upd H5 fa (.lst (List.map iv f ++ [iv y]))) := Evl.Ex.mut smH hfa
            have hFA : upd H5 fa (.lst (List.map iv f ++ [iv y])) fa = some (.lst ((f ++ [y]).map iv)) := by rw [iv_app]; exact upd_same
            have hKA : upd H5 fa (.lst (List.map iv f ++ [iv y])) kk = some (.lst (k.map iv)) := (upd_ne nkk).trans hK5
            generalize upd H5 fa (.lst (List.map iv f ++ [iv y])) = H6 at smA hFA hKA ⊢
            refine ⟨_, rfl, _, rfl, md, _, 0, _, rfl, rfl, same_t smA h1, rfl, _, rfl, c, _, (y : Nat), _, rfl, rfl, same_t smA h2, atI_nat (cl_get hy), line_of (by simp), fun p7 hp7 => ?_⟩
            have s7 := same_new (o := .lst [iv (m.c y)]) hp7
            refine ⟨kk, p7, _, _, rfl, rfl, s7 _ _ hKA, upd_same, line_of (by simp; omega), fun p8 hp8 => ?_⟩
            have s8 := same_new (o := .lst (List.map iv k ++ [iv (m.c y)])) hp8
            have n8 : p8 ≠ fa := (ne_of_none (s7 _ _ hFA) hp8).symm
            have sm8 := smA.trans (s7.trans s8)
            have hF8 := s8 _ _ (s7 _ _ hFA)
            have hK8 : upd (upd H6 p7 (.lst [iv (m.c y)])) p8 (.lst (List.map iv k ++ [iv (m.c y)])) p8 = some (.lst ((k ++ [m.c y]).map iv)) := by rw [iv_app]; exact upd_same
            generalize upd (upd H6 p7 (.lst [iv (m.c y)])) p8 (.lst (List.map iv k ++ [iv (m.c y)])) = H8 at sm8 hF8 hK8 ⊢
            refine ⟨_, rfl, md, _, 0, _, rfl, rfl, same_t sm8 h1, rfl, _, rfl, c, _, (y : Nat), _, rfl, rfl, same_t sm8 h2, atI_nat (cl_get hy), rfl, _, rfl, ?_⟩
            rw [show decide (V.int ((m.c y : Nat) : Int) = V.int 0) = decide (m.c y = 0) from dec_nat _ 0]
            by_cases c0 : m.c y = 0
            · rw [if_pos c0, decide_eq_true c0]
              refine iteT ⟨_, rfl, fa, _, rfl, .inl (sqL hF8), _, _, rfl, rfl, line_of (by simp), fun p9 hp9 => ⟨_, _, rfl, ?_⟩⟩
              have s9 := same_new (o := .lst []) hp9
              refine ⟨sm8.trans s9, p9, some (iv y), some (ov none), some (.bl (m.jFree k y)), o8, (ne_of_none hF8 hp9).symm, s9 _ _ hF8, upd_same, ?_⟩
              dsimp only
              rw [show (((List.map iv (f ++ [y])).length : Int) - 1) = (f.length : Int) from by rw [List.length_map, List.length_append, List.length_singleton]; omega]
              rfl
            · rw [if_neg c0, decide_eq_false c0]
              exact iteF ⟨sm8, p8, _, _, _, _, n8, hF8, hK8, rfl⟩
          | some z =>
            refine iteT ⟨_, rfl, _, rfl, ?_⟩
            cases ef : m.jFree k y with
            | false =>
              refine iteF ?_
              rw [show (Option.isSome (some z) && false) = false from rfl, if_neg (by simp)]
              refine ⟨_, rfl, .inl ⟨rfl, _, sqL hF5⟩, _, rfl, fa, _, _, rfl, rfl, hF5, line_lt (by rw [List.length_map]; omega), ?_⟩
              have smA : Same H (upd H5 fa (.lst (List.map iv f ++ [iv y]))) := Evl.Ex.mut smH hfa
              have hFA : upd H5 fa (.lst (List.map iv f ++ [iv y])) fa = some (.lst ((f ++ [y]).map iv)) := by rw [iv_app]; exact upd_same
              have hKA : upd H5 fa (.lst (List.map iv f ++ [iv y])) kk = some (.lst (k.map iv)) := (upd_ne nkk).trans hK5
              generalize upd H5 fa (.lst (List.map iv f ++ [iv y])) = H6 at smA hFA hKA ⊢
              refine ⟨_, rfl, _, rfl, md, _, 0, _, rfl, rfl, same_t smA h1, rfl, _, rfl, c, _, (y : Nat), _, rfl, rfl, same_t smA h2, atI_nat (cl_get hy), line_of (by simp), fun p7 hp7 => ?_⟩
              have s7 := same_new (o := .lst [iv (m.c y)]) hp7
              refine ⟨kk, p7, _, _, rfl, rfl, s7 _ _ hKA, upd_same, line_of (by simp; omega), fun p8 hp8 => ?_⟩
              have s8 := same_new (o := .lst (List.map iv k ++ [iv (m.c y)])) hp8
              have n8 : p8 ≠ fa := (ne_of_none (s7 _ _ hFA) hp8).symm
              have sm8 := smA.trans (s7.trans s8)
              have hF8 := s8 _ _ (s7 _ _ hFA)
              have hK8 : upd (upd H6 p7 (.lst [iv (m.c y)])) p8 (.lst (List.map iv k ++ [iv (m.c y)])) p8 = some (.lst ((k ++ [m.c y]).map iv)) := by rw [iv_app]; exact upd_same
              generalize upd (upd H6 p7 (.lst [iv (m.c y)])) p8 (.lst (List.map iv k ++ [iv (m.c y)])) = H8 at sm8 hF8 hK8 ⊢
              refine ⟨_, rfl, md, _, 0, _, rfl, rfl, same_t sm8 h1, rfl, _, rfl, c, _, (y : Nat), _, rfl, rfl, same_t sm8 h2, atI_nat (cl_get hy), rfl, _, rfl, ?_⟩
              rw [show decide (V.int ((m.c y : Nat) : Int) = V.int 0) = decide (m.c y = 0) from dec_nat _ 0]
              by_cases c0 : m.c y = 0
              · rw [if_pos c0, decide_eq_true c0]
                refine iteT ⟨_, rfl, fa, _, rfl, .inl (sqL hF8), _, _, rfl, rfl, line_of (by simp), fun p9 hp9 => ⟨_, _, rfl, ?_⟩⟩
                have s9 := same_new (o := .lst []) hp9
                refine ⟨sm8.trans s9, p9, some (iv y), some (ov (some z)), some (.bl false), o8, (ne_of_none hF8 hp9).symm, s9 _ _ hF8, upd_same, ?_⟩
                dsimp only
                rw [show (((List.map iv (f ++ [y])).length : Int) - 1) = (f.length : Int) from by rw [List.length_map, List.length_append, List.length_singleton]; omega]
                rfl
              · rw [if_neg c0, decide_eq_false c0]
                exact iteF ⟨sm8, p8, _, _, _, _, n8, hF8, hK8, rfl⟩
            | true =>
              cases b with
              | none => cases el
              | some i =>
                have hi := v4 i rfl
                refine iteT ?_
                refine ⟨_, rfl, _, rfl, _, rfl, fa, _, (i : Int), i, rfl, rfl, hF5, Evl.ixN_nat (by rw [List.length_map]; exact hi), ?_⟩
                refine ⟨Evl.Ex.mut smH hfa, kk, _, _, _, _, nkk, ?_, ?_, rfl⟩
                · show upd _ _ _ _ = some (.lst ((f.set i z).map iv))
                  rw [List.map_set]
                  exact upd_same
                · rw [upd_ne nkk]
                  exact hK5
        · rw [decide_eq_true_eq] at e
          subst e
          rfl
        · rw [decide_eq_false_iff_not] at e
          have ee : k.isEmpty = false := by
            cases k with
            | nil => exact absurd rfl e
            | cons _ _ => rfl
          have ef : m.jFree k y = (decide (0 < m.c y) && k.all fun z => decide (0 < z) && decide (z < m.c y)) := by unfold Mo.jFree; rw [ee, Bool.false_or]
          refine ⟨_, rfl, md, _, 0, _, rfl, rfl, same_t sm4 h1, rfl, _, rfl, c, _, (y : Nat), _, rfl, rfl, same_t sm4 h2, atI_nat (cl_get hy), _, _, rfl, rfl, _, rfl, ?_⟩
          by_cases c0 : 0 < m.c y
          · rw [show decide ((0 : Int) < ((m.c y : Nat) : Int)) = true from decide_eq_true (by omega)]
            refine iteT ⟨_, rfl, kk, rfl, ⟨_, sqL hK4⟩, fun D hD => ?_⟩
            refine lcL (l := k) (Rl := fun v z => v = iv z) (sqL hK4) (paired_map fun z _ => rfl) hD (line_lt (by omega)) (fun z => some (.bl (decide (0 < z) && decide (z < m.c y)))) (fun v z H6 hz' ev smz R hN hS => ?_) (fun H6 smz hL => ?_)
            · subst ev
              refine ⟨rfl, ?_⟩
              refine yes_ok ?_
              refine ⟨_, rfl, _, _, rfl, rfl, _, rfl, ?_⟩
              have smk := sm4.trans smz
              have hS := hS _ rfl _ (Same.refl _)
              by_cases cz : 0 < z
              · rw [show decide ((0 : Int) < ((z : Nat) : Int)) = true from decide_eq_true (by omega)]
                rw [decide_eq_true cz, Bool.true_and] at hS
                refine iteT ⟨_, rfl, md, _, 0, _, rfl, rfl, same_t smk h1, rfl, _, rfl, c, _, (y : Nat), _, rfl, rfl, same_t smk h2, atI_nat (cl_get hy), _, _, rfl, rfl, ?_⟩
                dsimp only
                rw [dec_lt]
                exact hS
              · rw [show decide ((0 : Int) < ((z : Nat) : Int)) = false from decide_eq_false (by omega)]
                rw [decide_eq_false cz, Bool.false_and] at hS
                exact iteF hS
            · refine ⟨D, k.map fun z => decide (0 < z) && decide (z < m.c y), rfl, sqL ?_, ?_⟩
              · rw [hL, List.filterMap_eq_map', List.map_map]
                rfl
              · have eb : (k.map fun z => decide (0 < z) && decide (z < m.c y)).all id = k.all fun z => decide (0 < z) && decide (z < m.c y) := by rw [List.all_map]; rfl
                rw [eb]
                exact kq _ H6 (by rw [ef, decide_eq_true c0, Bool.true_and]) smz
          · rw [show decide ((0 : Int) < ((m.c y : Nat) : Int)) = false from decide_eq_false (by omega)]
            exact iteF (kq _ _ (by rw [ef, decide_eq_false c0, Bool.false_and]) (Same.refl _))
      · cases b with
        | none => simp [bV] at e
        | some i =>
          have hi := v4 i rfl
          refine ⟨_, rfl, _, rfl, _, rfl, fa, _, (i : Int), _, rfl, rfl, sqL hF, atI_nat (j := i) (v := iv (f.getD i 0)) (by rw [List.getElem?_map, getD_at hi]; rfl), _, rfl, md, m, f.getD i 0, y, rfl, ht.same sm, ok, vt_getD v1 hi, hy, fun H3 sm3 => kq H3 sm3⟩
      · cases b with
        | none => rfl
        | some i => simp [bV] at e
    · obtain ⟨sm, kk, o5, o6, o7, o8, nkk, hF, hK, rfl⟩ := hp
      exact ⟨_, rfl, fa, _, rfl, .inl ⟨sqL hF, fun p5 hp5 => q _ _ (sm.trans (same_new hp5)) new_t⟩⟩
end
end Des
end T_D11
section T_D12
set_option linter.all false
set_option maxRecDepth 100000
set_option maxHeartbeats 600000
namespace Des
open PySem PySem.Spec PyProof.Rows L2
open C8 (Cal Met Mak pe_c pe_mk pe_mt pe_mt0)
open StX (pa_star)
section
variable {P : Program} {w : World} {K : PySem.W.Frag} {mg : Str → Option Value} {base : Heap}
/-! ### is_place -/
def spPlace : Sp := fun vs H Q _ => ∃ x hi, vs = [x, .int hi] ∧ simV x ∧ Q (.bl (isNum x 0 hi)) H
theorem k_place (T : Tx K mg) : Cal P w K mg base 1 "_law_is_place" spPlace [] := by
  obtain ⟨fd, F⟩ := T.F_L_is_place
  refine calOf F (bL_is_place F) T.g__law_is_place scL_is_place (fun vs H Q E h => ?_) (fun cdv A outer s H vs Q E hr h => ?_)
  · obtain ⟨x, hi, rfl, _⟩ := h
    rfl
  · obtain ⟨x, hi, rfl, sv, q⟩ := h
    refine ⟨_, pss_one (ps_ret (pe_and (pe_callB call_isi rfl T.n_isinstance (by decide +kernel) (pa_cons (pv 0) (pa_cons (pe_bltn (v := .ty "int") rfl T.n_int (by decide +kernel) rfl) pa_nil)))
      (pe_and (pe_not (pe_callB call_isi rfl T.n_isinstance (by decide +kernel) (pa_cons (pv 0) (pa_cons (pe_bltn (v := .ty "bool") rfl T.n_bool (by decide +kernel) rfl) pa_nil))))
        (pe_one (pe_chain op_le op_le pe_int (pv 0) (pv 1)))))), ?_⟩
    rcases sv with rfl | ⟨b, rfl⟩ | ⟨i, rfl⟩
    · exact ⟨_, rfl, _, _, _, _, _, rfl, .ty "int", .base .non, kNone_int, _, rfl, iteF q⟩
    · refine ⟨_, rfl, _, _, _, _, _, rfl, .ty "int", .base (.bl b), kBool_int, _, rfl, iteT ?_⟩
      exact ⟨_, rfl, _, _, _, _, _, rfl, .ty "bool", .base (.bl b), kBool_bool, _, rfl, _, rfl, iteF q⟩
    · refine ⟨_, rfl, _, _, _, _, _, rfl, .ty "int", .base (.int i), kInt_int, _, rfl, iteT ?_⟩
      refine ⟨_, rfl, _, _, _, _, _, rfl, .ty "bool", .base (.int i), kInt_bool, _, rfl, _, rfl, iteT ?_⟩
      refine ⟨_, rfl, _, _, rfl, rfl, _, rfl, ?_⟩
      have q : Q (.bl (decide (0 ≤ i) && decide (i ≤ hi))) H := q
      by_cases c : 0 ≤ i
      · rw [decide_eq_true c] at q ⊢
        refine iteT ⟨_, rfl, _, _, rfl, rfl, ?_⟩
        simpa using q
      · rw [decide_eq_false c] at q ⊢
        exact iteF (by simpa using q)
/-! ### plain -/
theorem passN_succ {m : Mo} {l : List Nat} {n : Nat} : m.passN l (n + 1) = m.swapAt (m.passN l n) n := by
  unfold Mo.passN
  rw [List.range_succ, List.foldl_append]
  rfl
theorem swap_ok {m : Mo} {l : List Nat} {k : Nat} (v : Vt m l) (h : k + 1 < l.length) : (m.swapAt l k).length = l.length ∧ Vt m (m.swapAt l k) := by
  unfold Mo.swapAt
  split
  · refine ⟨by rw [List.length_set, List.length_set], fun s hs => ?_⟩
    rcases List.mem_or_eq_of_mem_set hs with q | q
    · rcases List.mem_or_eq_of_mem_set q with q | q
      · exact v s q
      · rw [q]; exact vt_getD v h
    · rw [q]; exact vt_getD v (by omega)
  · exact ⟨rfl, v⟩
theorem passN_ok {m : Mo} {l : List Nat} (v : Vt m l) : ∀ n, n ≤ l.length - 1 → (m.passN l n).length = l.length ∧ Vt m (m.passN l n)
  | 0, _ => ⟨rfl, v⟩
  | n + 1, h => by
    obtain ⟨a, b⟩ := passN_ok v n (by omega)
    rw [passN_succ]
    obtain ⟨c, d⟩ := swap_ok (k := n) b (by omega)
    exact ⟨c.trans a, d⟩
def passes (m : Mo) (l : List Nat) : Nat → List Nat
  | 0 => l
  | n + 1 => m.pass (passes m l n)
theorem passes_ok {m : Mo} {l : List Nat} (v : Vt m l) : ∀ n, (passes m l n).length = l.length ∧ Vt m (passes m l n)
  | 0 => ⟨rfl, v⟩
  | n + 1 => by
    obtain ⟨a, b⟩ := passes_ok v n
    obtain ⟨c, d⟩ := passN_ok b _ (Nat.le_refl _)
    exact ⟨c.trans a, d⟩
def spLPlain (K : PySem.W.Frag) : Sp := fun vs H Q _ => ∃ md m a t, vs = [.ref md, .ref a] ∧ ModAt K H md m ∧ m.Ok ∧ TI K H a t ∧ Vt m t ∧ t.length ≤ 200 ∧ ∀ u H', Same H H' → TI K H' u (m.plain t) → Q (.ref u) H'
theorem k_lplain (T : Tx K mg) : Cal P w K mg base 10 "_law_plain" (spLPlain K) [] := by
  obtain ⟨fd, F⟩ := T.F_L_plain
  refine calOf F (bL_plain F) T.g__law_plain scL_plain (fun vs H Q E h => ?_) (fun cdv A outer s H vs Q E hr h => ?_)
  · obtain ⟨md, m, a, t, rfl, _⟩ := h
    rfl
  · obtain ⟨md, m, a, t, rfl, ht, ok, hT, hv, hz, q⟩ := h
    obtain ⟨c, r, s', h1, h2, h3, h4⟩ := ht.ex
    refine ⟨_, pss_cons (ps_set (i := 2) scL_plain.nd rfl (Or.inl rfl) (pe_lst pa_nil))
      (pss_cons (ps_for PassesOwn.never rfl (pi_tup (pv 1)) (pg_name (i := 3) scL_plain.nd rfl (Or.inl rfl))
        (pss_one (ps_set (i := 2) scL_plain.nd rfl (Or.inl rfl) (pe_op op_cat (pv 2) (pe_c (k_lbare6 T) hr (by decide) rfl (pa_cons (pv 0) (pa_cons (pv 3) pa_nil)))))))
      (pss_cons (ps_for PassesOwn.never rfl (pi_range1 rfl T.n_range (pa_cons pe_int pa_nil)) (pg_name (i := 4) scL_plain.nd rfl (Or.inl rfl))
        (pss_one (ps_for PassesOwn.never rfl (pi_range2 (by rfl) T.n_range (pa_cons pe_int (pa_cons (pe_callB call_len_seq rfl T.n_len PySem.boot_len (pa_cons (pv 2) pa_nil)) pa_nil))) (pg_name (i := 5) scL_plain.nd rfl (Or.inl rfl))
          (pss_cons (ps_par (i := 6) (j := 7) (by rfl) scL_plain.nd rfl rfl (by decide) rfl rfl (pa_cons (pe_ix ix_tup (pe_ix ix_tup (pv 0) pe_int (fun _ _ => rfl)) (pe_ix ix_list (pv 2) (pe_op op_sub (pv 5) pe_int) (fun _ _ => rfl)) (fun _ _ => rfl))
              (pa_cons (pe_ix ix_tup (pe_ix ix_tup (pv 0) pe_int (fun _ _ => rfl)) (pe_ix ix_list (pv 2) (pv 5) (fun _ _ => rfl)) (fun _ _ => rfl)) pa_nil)) (by rfl))
          (pss_one (ps_if (pt_chain op_gt op_gt (pv 6) (pv 7) pe_int)
            (pss_one (ps_asg (pe_tup (pa_cons (pe_ix ix_list (pv 2) (pv 5) (fun _ _ => rfl)) (pa_cons (pe_ix ix_list (pv 2) (pe_op op_sub (pv 5) pe_int) (fun _ _ => rfl)) pa_nil)))
              (pg_tup rfl (pgs_cons (pg_sub (pv 2) (pe_op op_sub (pv 5) pe_int) set_list) (pgs_cons (pg_sub (pv 2) (pv 5) set_list) pgs_nil))))) pss_nil))))))
      (pss_one (ps_ret (pe_c (k_ljoin T) hr (by decide) rfl (pa_cons (pv 0) (pa_cons (pv 2) pa_nil))))))), ?_⟩
    refine ⟨line_of (by simp), fun u0 hu0 => ?_⟩
    refine ⟨_, rfl, a, rfl, ⟨_, same_t (same_new hu0) hT⟩, ?_⟩
    refine for_tN (f := iv) (ns := t) (fun p σ H' => Same H H' ∧ ∃ u o3 o4 o5 o6 o7, H u = none ∧ H' u = some (.lst ((m.flat p).map iv)) ∧ σ = [some (.ref md), some (.ref a), some (.ref u), o3, o4, o5, o6, o7]) ⟨same_new hu0, u0, _, _, _, _, _, hu0, upd_same, rfl⟩
      (fun p σ H' hp => same_t hp.1 hT) (fun p x l σ H' ec hp => ?_) (fun σ H' hp => ?_)
    · obtain ⟨sm, u, o3, o4, o5, o6, o7, nu, hL, rfl⟩ := hp
      have hx : x < m.n := hv x (by rw [ec]; simp)
      have hpl : p.length + 1 ≤ 200 := by rw [ec] at hz; simp at hz; omega
      have hfl := flat_len ok (t := p) fun s hs => hv s (by rw [ec]; simp [hs])
      have hbl := bare_len64 ok hx
      refine ⟨_, rfl, _, rfl, _, rfl, md, m, x, rfl, ht.same sm, ok, hx, lt6 ok hx, fun v Hv smv hv1 nv => ?_⟩
      refine ⟨u, v, _, _, rfl, rfl, smv _ _ hL, hv1, line_of (by rw [List.length_map, List.length_map]; omega), fun p2 hp2 => ?_⟩
      refine ⟨(sm.trans smv).trans (same_new hp2), p2, _, _, _, _, _, (sm.trans smv).free hp2, ?_, rfl⟩
      rw [flat_snoc, iv_app]
      exact upd_same
    · obtain ⟨sm, u, o3, o4, o5, o6, o7, nu, hL, rfl⟩ := hp
      have hfv : Vt m (m.flat t) := flat_lt ok hv
      have hfl := flat_len ok hv
      refine ⟨2, rfl, by decide, by decide, ?_⟩
      refine for_range (lo := 0) (n := 2) (fun i σ H' => Same H H' ∧ ∃ o3 o4 o5 o6 o7, H' u = some (.lst ((passes m (m.flat t) i).map iv)) ∧ σ = [some (.ref md), some (.ref a), some (.ref u), o3, o4, o5, o6, o7]) ⟨sm, _, _, _, _, _, hL, rfl⟩
        (fun i σ H' hi hp => ?_) (fun σ H' hp => ?_)
      · obtain ⟨sm, o3, o4, o5, o6, o7, hL, rfl⟩ := hp
        obtain ⟨pl, pv⟩ := passes_ok hfv i
        show gName 4 _ _ _ _
        refine ⟨_, rfl, u, _, rfl, .inl (sqL hL), 1, _, rfl, ⟨by decide, by decide, ?_, ?_⟩, ?_⟩
        · rw [List.length_map]; omega
        · rw [List.length_map]; omega
        · have en : (((List.map iv (passes m (m.flat t) i)).length : Int) - 1).toNat = (passes m (m.flat t) i).length - 1 := by rw [List.length_map]; omega
          rw [en]
          generalize eL : passes m (m.flat t) i = L at hL pl pv en
          have pl : L.length = (m.flat t).length := pl
          refine for_range (lo := 1) (n := L.length - 1) (fun k σ H' => Same H H' ∧ ∃ o3 o4 o5 o6 o7, H' u = some (.lst ((m.passN L k).map iv)) ∧ σ = [some (.ref md), some (.ref a), some (.ref u), o3, o4, o5, o6, o7]) ⟨sm, _, _, _, _, _, hL, rfl⟩
            (fun k σ H' hk hp => ?_) (fun σ H' hp => ?_)
          · obtain ⟨sm, o3, o4, o5, o6, o7, hL, rfl⟩ := hp
            obtain ⟨ql, qv⟩ := passN_ok pv k (by omega)
            show gName 5 _ _ _ _
            have es : m.passN L (k + 1) = m.swapAt (m.passN L k) k := passN_succ
            rw [es]
            generalize m.passN L k = l at hL ql qv
            have hk1 : k + 1 < l.length := by omega
            have a0 : atI (List.map iv l) (1 + (k : Int) - 1) = some (iv (l.getD k 0)) := by
              rw [show (1 + (k : Int) - 1) = (k : Int) by omega]
              exact atI_nat (by rw [List.getElem?_map, getD_at (by omega)]; rfl)
            have a1 : atI (List.map iv l) (1 + (k : Int)) = some (iv (l.getD (k + 1) 0)) := by
              rw [show (1 + (k : Int)) = ((k + 1 : Nat) : Int) by omega]
              exact atI_nat (by rw [List.getElem?_map, getD_at hk1]; rfl)
            have n0 : ∀ xs : List V, xs.length = l.length → ixN xs.length (1 + (k : Int) - 1) = some k := fun xs e => by
              rw [show (1 + (k : Int) - 1) = (k : Int) by omega]
              exact Evl.ixN_nat (by omega)
            have n1 : ∀ xs : List V, xs.length = l.length → ixN xs.length (1 + (k : Int)) = some (k + 1) := fun xs e => by
              rw [show (1 + (k : Int)) = ((k + 1 : Nat) : Int) by omega]
              exact Evl.ixN_nat (by omega)
            have c0 := cl_get (vt_getD qv (i := k) (by omega))
            have c1 := cl_get (vt_getD qv hk1)
            generalize e0 : l.getD k 0 = x at a0 c0
            generalize e1 : l.getD (k + 1) 0 = y at a1 c1
            refine ⟨_, rfl, md, _, 0, _, rfl, rfl, same_t sm h1, rfl, _, rfl, _, rfl, _, (1 : Int), rfl, rfl, u, _, 1 + (k : Int) - 1, _, rfl, rfl, sqL hL, a0, c, _, (x : Nat), _, rfl, rfl, same_t sm h2, atI_nat c0, ?_⟩
            refine ⟨_, rfl, md, _, 0, _, rfl, rfl, same_t sm h1, rfl, _, rfl, _, rfl, u, _, 1 + (k : Int), _, rfl, rfl, sqL hL, a1, c, _, (y : Nat), _, rfl, rfl, same_t sm h2, atI_nat c1, _, _, rfl, ?_⟩
            refine ⟨_, rfl, _, rfl, _, _, rfl, rfl, _, rfl, ?_⟩
            have esw : m.swapAt l k = if m.c y < m.c x ∧ 0 < m.c y then (l.set k y).set (k + 1) x else l := by unfold Mo.swapAt; rw [e0, e1]
            rw [esw]
            by_cases z1 : m.c y < m.c x
            · rw [show decide (((m.c y : Nat) : Int) < ((m.c x : Nat) : Int)) = true from decide_eq_true (by omega)]
              refine iteT ⟨_, _, rfl, rfl, _, rfl, ?_⟩
              by_cases z2 : 0 < m.c y
              · rw [show decide ((0 : Int) < ((m.c y : Nat) : Int)) = true from decide_eq_true (by omega)]
                refine iteT ?_
                refine ⟨_, rfl, _, rfl, u, _, 1 + (k : Int), _, rfl, rfl, sqL hL, a1, _, rfl, _, rfl, _, (1 : Int), rfl, rfl, u, _, 1 + (k : Int) - 1, _, rfl, rfl, sqL hL, a0, line_of (by simp), fun p2 hp2 => ?_⟩
                have s2 := same_new (o := .tup [iv y, iv x]) hp2
                refine ⟨p2, _, rfl, new_t, rfl, _, _, rfl, _, rfl, _, rfl, _, (1 : Int), rfl, rfl, u, _, 1 + (k : Int) - 1, k, rfl, rfl, s2 _ _ hL, n0 _ (by rw [List.length_map]), ?_⟩
                refine ⟨_, _, rfl, _, rfl, _, rfl, u, _, 1 + (k : Int), k + 1, rfl, rfl, upd_same, n1 _ (by rw [List.length_set, List.length_map]), rfl, ?_⟩
                refine ⟨Evl.Ex.mut (Evl.Ex.mut (sm.trans s2) nu) nu, _, _, _, _, _, ?_, rfl⟩
                rw [if_pos ⟨z1, z2⟩, List.map_set, List.map_set]
                exact upd_same
              · rw [show decide ((0 : Int) < ((m.c y : Nat) : Int)) = false from decide_eq_false (by omega)]
                refine iteF ⟨sm, _, _, _, _, _, ?_, rfl⟩
                rw [if_neg (fun z => z2 z.2)]
                exact hL
            · rw [show decide (((m.c y : Nat) : Int) < ((m.c x : Nat) : Int)) = false from decide_eq_false (by omega)]
              refine iteF ⟨_, rfl, iteF ⟨sm, _, _, _, _, _, ?_, rfl⟩⟩
              rw [if_neg (fun z => z1 z.1)]
              exact hL
          · obtain ⟨sm, o3, o4, o5, o6, o7, hL, rfl⟩ := hp
            refine ⟨sm, _, _, _, _, _, ?_, rfl⟩
            show H' u = some (.lst ((m.pass (passes m (m.flat t) i)).map iv))
            rw [eL]
            exact hL
      · obtain ⟨sm, o3, o4, o5, o6, o7, hL, rfl⟩ := hp
        obtain ⟨pl, pv⟩ := passes_ok hfv 2
        exact ⟨_, rfl, _, rfl, md, m, u, passes m (m.flat t) 2, rfl, ht.same sm, ok, hL, pv, by omega, fun v H2 sm2 hv2 => q v H2 (sm.trans sm2) hv2⟩
/-! ### is_same -/
def edD (e : Ed) : PyData := .tuple [.str (if e.put = true then "put" else "take"), .int (e.at_ : Int), .int (e.sg : Int)]
theorem dp_ed {H : Hp} {a : Addr} {e : Ed} (h : EdAt K H a e) : Dp K H (.ref a) (edD e) := .tup h (.cons (.str _) (.cons (.int _) (.cons (.int _) .nil)))
theorem dp_eds {H : Hp} : ∀ {es : List Addr} {l : List Ed}, Paired (EdAt K H) es l → DpAll K H (es.map V.ref) (l.map edD)
  | _, _, .nil => .nil
  | _, _, .cons r t => .cons (dp_ed r) (dp_eds t)
theorem eqv_eds : ∀ l : List Ed, PyData.eqvAll (l.map edD) (l.map edD) = true
  | [] => by simp [PyData.eqvAll]
  | e :: l => by
    rw [List.map_cons]
    simp only [PyData.eqvAll]
    rw [show PyData.eqvAll (l.map edD) (l.map edD) = true from eqv_eds l]
    simp [edD, PyData.eqv, PyData.eqvAll]
theorem lay_eds : ∀ l : List Ed, PyData.canLayAll0 (l.map edD) = true
  | [] => by simp [PyData.canLayAll0]
  | e :: l => by
    rw [List.map_cons]
    simp only [PyData.canLayAll0]
    rw [show PyData.canLayAll0 (l.map edD) = true from lay_eds l]
    simp [edD, PyData.canLay0, PyData.canLayAll0]
    cases e.put <;> decide +kernel
theorem depth_eds : ∀ l : List Ed, PyData.depthAll (l.map edD) ≤ 1
  | [] => by simp [PyData.depthAll]
  | e :: l => by
    rw [List.map_cons]
    simp only [PyData.depthAll]
    have := depth_eds l
    have h2 : (edD e).depth = 1 := by simp [edD, PyData.depth, PyData.depthAll]
    rw [h2]
    omega
theorem shaped_eds (l : List Ed) : SeqAt.shaped (.list (l.map edD)) = true := by
  unfold SeqAt.shaped
  simp only [PyData.canLay0, PyData.depth, lay_eds, Bool.true_and, decide_eq_true_eq]
  have := depth_eds l
  exact decide_eq_true (by omega)
theorem rows_last {H : Hp} {r : Addr} {hs : Hist} (h : RowsAt K H r hs) : ∃ xs last e t, H r = some (.lst (xs ++ [.ref last])) ∧ SqT K H last [e, .ref t] ∧ TI K H t (cur hs) := by
  obtain ⟨q0, t0, rv, h1, h2, h3, h4⟩ := h
  rcases List.eq_nil_or_concat hs with e | ⟨l, q, e⟩
  · subst e
    cases h4
    exact ⟨[], q0, .non, t0, h1, h2, h3⟩
  · rw [List.concat_eq_append] at e
    subst e
    obtain ⟨l0, n, rfl, g1, e', t', g2, g3, g4⟩ := paired_snoc h4
    refine ⟨.ref q0 :: l0.map V.ref, n, .ref e', t', ?_, g2, ?_⟩
    · rw [h1, List.map_append]
      rfl
    · rw [cur_snoc]
      exact g4
def spSame (K : PySem.W.Frag) : Sp := fun vs H Q _ => ∃ md p r tb m hs fl, vs = [.ref md, .ref p, .ref r] ∧ ModAt K H md m ∧ TabAt K H tb m ∧ DeskAt K H p tb m hs fl ∧ RowsAt K H r hs ∧ m.Ok ∧ HOk m hs ∧ hs.length ≤ 200 ∧ ∀ H', Same H H' → Q (.bl true) H'
theorem k_same (T : Tx K mg) : Cal P w K mg base 14 "_law_is_same" (spSame K) [] := by
  obtain ⟨fd, F⟩ := T.F_L_is_same
  refine calOf F (bL_is_same F) T.g__law_is_same scL_is_same (fun vs H Q E h => ?_) (fun cdv A outer s H vs Q E hr h => ?_)
  · obtain ⟨md, p, r, tb, m, hs, fl, rfl, _⟩ := h
    rfl
  · obtain ⟨md, p, r, tb, m, hs, fl, rfl, hm, ht, hd, hR, ok, ho, hz, q⟩ := h
    have hu := hr.units
    obtain ⟨xs, last, le, lt, l1, l2, l3⟩ := rows_last hR
    obtain ⟨dx, b, k, d1, _⟩ := id hd
    obtain ⟨c1, c2, c3⟩ := hok_cur ho
    refine ⟨_, pss_cons (ps_set (i := 3) scL_is_same.nd rfl (Or.inl rfl) (pe_ix ix_tup (pe_ix ix_list (pv 2) (pe_un un_neg pe_int) (fun _ _ => rfl)) pe_int (fun _ _ => rfl)))
      (pss_cons (ps_if (PW.pt (pw_or (pt_cmpR (op_neD hu) (pe_pr (k_signs T) hr (by decide) (pv 1) rfl) (pv 3) (nomark _)) (pw_or (pt_cmpR (op_neD hu) (pe_pr (k_made T) hr (by decide) (pv 1) rfl) (pe_c (k_lplain T) hr (by decide) rfl (pa_cons (pv 0) (pa_cons (pv 3) pa_nil))) (nomark _))
          (pw_or1 (pt_cmpR op_ne (pe_callB (call_lenD (k_dlen T) (hr.mono (by decide))) rfl T.n_len PySem.boot_len (pa_cons (pv 1) pa_nil)) (pe_callB call_len_seq rfl T.n_len PySem.boot_len (pa_cons (pv 3) pa_nil)) (nomark _))))))
        (pss_one ps_never) pss_nil)
      (pss_one (ps_ret (pe_cmpR (op_eqD hu) (pe_pr (k_jour T) hr (by decide) (pv 1) rfl)
        (pe_lc (own := [("_law_row", 4)]) (g := gName 4) (tt := tYes) (te := tOp (rIxT K) (tVar 4) (tC (.int 0))) rfl scL_is_same.nd
          (pi_list (pe_slice sl_list (pv 2) (po_some pe_int) po_none)) (blkOk_by (own := [("_law_row", 4)]) (N := ["_law_model", "_law_desk", "_law_rows", "_law_text", "_law_row"]) (sc := defScope sL_is_same) (by decide +kernel))
          (fun _ _ _ _ _ => pg_name (i := 4) scL_is_same.nd rfl (Or.inl rfl)) (fun _ _ _ _ _ => pts_nil) (fun _ _ _ _ _ => pe_ix ix_tup (pv 4) pe_int (fun _ _ => rfl))) (nomark _))))), ?_⟩
    refine ⟨_, rfl, (1 : Int), rfl, r, _, (-1 : Int), _, rfl, rfl, sqL l1, atI_last _ (V.ref last), last, _, 1, _, rfl, rfl, l2, rfl, ?_⟩
    refine ⟨_, rfl, p, dx, _, rfl, d1, p, tb, m, hs, fl, rfl, hd, fun t1 ht1 => ?_⟩
    refine ⟨_, rfl, dT (cur hs), dT (cur hs), dp_text ht1, dp_text l3, shaped_text _, shaped_text _, _, rfl, ?_⟩
    rw [eqv_text, decide_eq_true rfl]
    refine iteF ?_
    refine ⟨_, rfl, p, dx, _, rfl, d1, p, tb, m, hs, fl, rfl, hd, ht, ok, ho, hz, fun u1 H1 s1 hu1 => ?_⟩
    refine ⟨_, rfl, _, rfl, md, m, lt, cur hs, rfl, hm.same s1, ok, same_t s1 l3, c1, by omega, fun u2 H2 s2 hu2 => ?_⟩
    have s12 := s1.trans s2
    refine ⟨dT (m.made (cur hs)), dT (m.plain (cur hs)), dp_text (same_t s2 hu1), dp_text hu2, shaped_text _, shaped_text _, _, rfl, ?_⟩
    rw [eqv_text, decide_eq_true (made_plain c2)]
    refine iteF ?_
    refine ⟨_, rfl, p, tb, m, hs, fl, rfl, hd.same s12, by omega, _, rfl, lt, _, rfl, .inr (same_t s12 l3), rfl, _, rfl, ?_⟩
    rw [List.length_map, decide_eq_true rfl]
    refine iteF ?_
    refine ⟨_, rfl, p, dx, _, rfl, s12 _ _ d1, p, tb, m, hs, fl, rfl, hd.same s12, hz, fun D1 H3 s3 hj => ?_⟩
    have s13 := s12.trans s3
    obtain ⟨q0, t0, rv, r1, r2, r3, r4⟩ := hR.same s13
    refine ⟨_, rfl, (1 : Int), rfl, ?_⟩
    dsimp only [tNoPart]
    refine ⟨r, _, rfl, sqL r1, fun p5 hp5 => ?_⟩
    rw [cutV_tail]
    have e5 := same_new (o := .lst (rv.map V.ref)) hp5
    refine ⟨p5, rfl, ⟨_, sqL upd_same⟩, fun D hD => ?_⟩
    obtain ⟨es, g1, g2⟩ := notes_split r4
    have gl := paired_len g2
    rw [List.length_map] at gl
    refine lcL (l := es) (Rl := fun v e => ∃ n t, v = V.ref n ∧ SqT K H3 n [.ref e, .ref t]) (sqL upd_same) (paired_mapl g1 fun x e z => ⟨x, z.choose, rfl, z.choose_spec⟩) hD (line_lt (by omega)) (fun e => some (.ref e)) (fun x e H6 _ hx sm R hN hS => ?_) (fun H6 sm hL => ?_)
    · obtain ⟨n, t', rfl, ht'⟩ := hx
      refine ⟨rfl, yes_ok ?_⟩
      exact ⟨_, rfl, n, _, 0, _, rfl, rfl, same_t (e5.trans sm) ht', rfl, hS _ rfl _ (Same.refl _)⟩
    · obtain ⟨es', j1, j2⟩ := hj
      have s36 := e5.trans sm
      rw [List.filterMap_eq_map'] at hL
      refine ⟨.list ((hs.map (·.1)).map edD), .list ((hs.map (·.1)).map edD), .lst (sqL (s36 _ _ j1)) (dp_eds (paired_imp j2 fun _ _ z => same_t s36 z)), .lst (sqL hL) (dp_eds (paired_imp g2 fun _ _ z => same_t s36 z)), shaped_eds _, shaped_eds _, ?_⟩
      have := q _ (s13.trans s36)
      rw [show PyData.eqv (.list ((hs.map (·.1)).map edD)) (.list ((hs.map (·.1)).map edD)) = true from by simp only [PyData.eqv]; exact eqv_eds _]
      exact this
end
end Des
end T_D12
section T_D13
set_option linter.all false
set_option maxRecDepth 100000
set_option maxHeartbeats 600000
namespace Des
open PySem PySem.Spec PyProof.Rows L2
open C8 (Cal Met Mak pe_c pe_mk pe_mt pe_mt0)
open StX (pa_star)
section
variable {P : Program} {w : World} {K : PySem.W.Frag} {mg : Str → Option Value} {base : Heap}
/-! ### draws -/
def spCell (K : PySem.W.Frag) : Sp := fun vs H Q _ => ∃ (s : Addr) (cs : List Int) (k : Nat), vs = [.ref s, iv k] ∧ H s = some (.lst (cs.map V.int)) ∧ ∀ v : Int, Q (.int v) H
theorem k_cell (T : Tx K mg) : Cal P w K mg base 1 "_law_cell_at" (spCell K) [] := by
  obtain ⟨fd, F⟩ := T.F_L_cell_at
  refine calOf F (bL_cell_at F) T.g__law_cell_at scL_cell_at (fun vs H Q E h => ?_) (fun cdv A outer s H vs Q E hr h => ?_)
  · obtain ⟨s, cs, k, rfl, _⟩ := h
    rfl
  · obtain ⟨s, cs, k, rfl, hs, q⟩ := h
    refine ⟨_, pss_cons (ps_if (pt_cmpR op_lt (pv 1) (pe_callB call_len_seq rfl T.n_len PySem.boot_len (pa_cons (pv 0) pa_nil)) (nomark _)) (pss_one (ps_ret (pe_ix ix_list (pv 0) (pv 1) (fun _ _ => rfl)))) pss_nil)
      (pss_one (ps_ret pe_int)), ?_⟩
    refine ⟨_, rfl, _, rfl, s, _, rfl, .inl (sqL hs), _, _, rfl, rfl, _, rfl, ?_⟩
    rw [List.length_map]
    by_cases c : k < cs.length
    · rw [show decide (((k : Nat) : Int) < ((cs.length : Nat) : Int)) = true from decide_eq_true (by omega)]
      exact iteT ⟨_, rfl, _, rfl, s, _, (k : Int), _, rfl, rfl, sqL hs, atI_nat (v := .int cs[k]) (by rw [List.getElem?_map, List.getElem?_eq_getElem c]; rfl), q _⟩
    · rw [show decide (((k : Nat) : Int) < ((cs.length : Nat) : Int)) = false from decide_eq_false (by omega)]
      exact iteF (q _)
def primes : List Int := [1000003, 1000033, 1000037, 1000039, 1000081, 1000099, 1000117, 1000121, 1000133, 1000151, 1000159, 1000171, 1000183, 1000187, 1000193, 1000199]
theorem primes_at {k : Nat} (h : k < 16) : ∃ p : Int, (primes.map V.int)[k]? = some (.int p) ∧ 0 < p := by
  have : ∀ k : Fin 16, ∃ p : Int, primes[k.val]? = some p ∧ 0 < p := by decide +kernel
  obtain ⟨p, e, h0⟩ := this ⟨k, h⟩
  exact ⟨p, by rw [List.getElem?_map, show primes[k]? = some p from e]; rfl, h0⟩
theorem nat_of {r b : Int} (h0 : 0 ≤ r) (h : r < b) {n : Nat} (e : b = (n : Int)) : ∃ k : Nat, r = (k : Int) ∧ k < n := ⟨r.toNat, by omega, by omega⟩
def spDraw (K : PySem.W.Frag) : Sp := fun vs H Q _ => ∃ (c : Int) (k b : Nat), vs = [.int c, iv k, iv b] ∧ c.natAbs < 2 ^ 63 ∧ k ≤ 1000 ∧ 0 < b ∧ ∀ (r : Nat) H', r < b → Same H H' → Q (iv r) H'
theorem k_draw (T : Tx K mg) : Cal P w K mg base 1 "_law_draw" (spDraw K) [] := by
  obtain ⟨fd, F⟩ := T.F_L_draw
  refine calOf F (bL_draw F) T.g__law_draw scL_draw (fun vs H Q E h => ?_) (fun cdv A outer s H vs Q E hr h => ?_)
  · obtain ⟨c, k, b, rfl, _⟩ := h
    rfl
  · obtain ⟨c, k, b, rfl, hc, hk, hb, q⟩ := h
    refine ⟨_, pss_cons (ps_set (i := 3) scL_draw.nd rfl (Or.inl rfl) (pe_tup (pa_cons pe_int (pa_cons pe_int (pa_cons pe_int (pa_cons pe_int (pa_cons pe_int (pa_cons pe_int (pa_cons pe_int (pa_cons pe_int (pa_cons pe_int (pa_cons pe_int (pa_cons pe_int (pa_cons pe_int (pa_cons pe_int (pa_cons pe_int (pa_cons pe_int (pa_cons pe_int pa_nil))))))))))))))))))
      (pss_one (ps_ret (pe_op op_mod (pe_callTy call_int1 rfl T.n_int boot_int_ (pa_cons (pe_op op_mod (pe_callTy call_int1 rfl T.n_int boot_int_ (pa_cons (pe_op op_add (pe_op op_mul (pv 0) pe_int) (pe_op op_mul (pv 1) pe_int)) pa_nil))
        (pe_ix ix_tup (pv 3) (pe_op op_mod (pe_callTy call_int1 rfl T.n_int boot_int_ (pa_cons (pv 1) pa_nil)) pe_int) (fun _ _ => rfl))) pa_nil)) (pv 2)))), ?_⟩
    refine ⟨line_of (by simp), fun p hp => ?_⟩
    have s1 := same_new (o := .tup (primes.map V.int)) hp
    obtain ⟨pr, e1, e2⟩ := primes_at (k := k % 16) (Nat.mod_lt _ (by decide))
    refine ⟨_, rfl, _, _, rfl, rfl, .inr (by constructor <;> decide), _, rfl, _, _, rfl, rfl, .inr (by constructor <;> decide), _, _, rfl, rfl, .inl ⟨_, rfl, ?_⟩⟩
    refine ⟨_, rfl, _, rfl, .inl ⟨_, rfl, _, (16 : Int), rfl, rfl, (by show (0 : Int) < 16; decide), ?_⟩⟩
    refine ⟨p, _, (k : Int) % 16, _, rfl, rfl, new_t (xs := primes.map V.int), by rw [show (k : Int) % 16 = ((k % 16 : Nat) : Int) by omega]; exact atI_nat e1, _, _, rfl, rfl, e2, .inl ⟨_, rfl, ?_⟩⟩
    refine ⟨_, rfl, _, (b : Int), rfl, rfl, by omega, ?_⟩
    obtain ⟨r, er, hr'⟩ := nat_of (Int.emod_nonneg ((c * 48271 + (k : Int) * 69621) % pr) (show (b : Int) ≠ 0 by omega)) (Int.emod_lt_of_pos _ (show (0 : Int) < (b : Int) by omega)) rfl
    show Q (.int ((c * 48271 + (k : Int) * 69621) % pr % (b : Int))) _
    rw [er]
    exact q r _ hr' s1
theorem if_both {c : Bool} {A B : Prop} (a : A) (b : B) : if c = true then A else B := by
  cases c
  · exact iteF b
  · exact iteT a
def spNum2 (K : PySem.W.Frag) : Sp := fun vs H Q _ => ∃ (c : Int) (k b : Nat), vs = [.int c, iv k, iv b] ∧ k ≤ 12 ∧ 0 < b ∧ ∀ (r : Nat) H', r < b → Same H H' → Q (iv r) H'
theorem pow_lt (n : Nat) : 1009 ^ n < 2 ^ (10 * n + 1) := by
  induction n with
  | zero => decide
  | succ n ih =>
    rw [Nat.pow_succ, show 10 * (n + 1) + 1 = (10 * n + 1) + 10 by omega, Nat.pow_add 2 (10 * n + 1) 10]
    have : (1009 : Nat) ≤ 2 ^ 10 := by decide
    exact Nat.lt_of_lt_of_le (Nat.mul_lt_mul_of_pos_right ih (by decide)) (Nat.mul_le_mul_left _ this)
theorem pow_pos (n : Nat) : 0 < 1009 ^ n := Nat.pow_pos (by decide)
theorem k_number (T : Tx K mg) : Cal P w K mg base 2 "_law_number" (spNum2 K) [] := by
  obtain ⟨fd, F⟩ := T.F_L_number
  refine calOf F (bL_number F) T.g__law_number scL_number (fun vs H Q E h => ?_) (fun cdv A outer s H vs Q E hr h => ?_)
  · obtain ⟨c, k, b, rfl, _⟩ := h
    rfl
  · obtain ⟨c, k, b, rfl, hk, hb, q⟩ := h
    refine ⟨_, pss_cons (ps_set (i := 3) scL_number.nd rfl (Or.inl rfl) pe_int)
      (pss_cons (ps_for PassesOwn.never rfl (pi_range1 rfl T.n_range (pa_cons (pe_op op_mod (pe_callTy call_int1 rfl T.n_int boot_int_ (pa_cons (pv 1) pa_nil)) pe_int) pa_nil)) (pg_name (i := 4) scL_number.nd rfl (Or.inl rfl))
        (pss_one (ps_set (i := 3) scL_number.nd rfl (Or.inl rfl) (pe_op op_mul (pv 3) pe_int))))
      (pss_cons (ps_set (i := 5) scL_number.nd rfl (Or.inl rfl) (pe_op op_fdivW (pe_op op_sub (pv 0) (pe_op op_pow pe_int pe_int)) (pv 3)))
      (pss_cons (ps_if (pt_cmpR op_gt (pv 5) pe_int (nomark _)) (pss_one (ps_ret (pe_op op_mod (pe_callTy call_int1 rfl T.n_int boot_int_ (pa_cons (pe_op op_mod (pe_callTy call_int1 rfl T.n_int boot_int_ (pa_cons (pv 5) pa_nil)) pe_int) pa_nil)) (pv 2)))) pss_nil)
      (pss_cons (ps_set (i := 6) scL_number.nd rfl (Or.inl rfl) (pe_op op_mod (pe_callTy call_int1 rfl T.n_int boot_int_ (pa_cons (pv 0) pa_nil)) pe_int))
      (pss_cons (ps_set (i := 7) scL_number.nd rfl (Or.inl rfl) (pe_op op_mul (pe_op op_add (pv 6) (pe_op op_mul pe_int (pv 1))) (pe_op op_add (pe_op op_add (pv 6) (pe_op op_mul pe_int (pv 1))) pe_int)))
      (pss_one (ps_ret (pe_op op_mod (pe_callTy call_int1 rfl T.n_int boot_int_ (pa_cons (pe_c (k_draw T) hr (by decide) rfl (pa_cons (pv 7) (pa_cons (pe_op op_add (pe_op op_mod (pe_callTy call_int1 rfl T.n_int boot_int_ (pa_cons (pv 1) pa_nil)) pe_int) pe_int) (pa_cons pe_int pa_nil)))) pa_nil)) (pv 2))))))))), ?_⟩
    refine ⟨_, rfl, .inl ⟨_, rfl, _, (24 : Int), rfl, rfl, (by show (0 : Int) < 24; decide), ?_⟩⟩
    refine ⟨(k : Int) % 24, rfl, by omega, by omega, ?_⟩
    refine for_range (lo := 0) (n := ((k : Int) % 24).toNat) (fun i σ H' => H' = H ∧ ∃ o4, σ = [some (.int c), some (iv k), some (iv b), some (.int ((1009 ^ i : Nat) : Int)), o4, none, none, none]) ⟨rfl, _, rfl⟩
      (fun i σ H' hi hp => ?_) (fun σ H' hp => ?_)
    · obtain ⟨rfl, o4, rfl⟩ := hp
      show gName 4 _ _ _ _
      refine ⟨_, rfl, _, (1009 : Int), rfl, rfl, .inr (by constructor <;> decide), rfl, some (.int (0 + (i : Int))), ?_⟩
      rw [Nat.pow_succ, Int.natCast_mul]
      rfl
    · obtain ⟨rfl, o4, rfl⟩ := hp
      have hn : ((k : Int) % 24).toNat ≤ 24 := by omega
      generalize ((k : Int) % 24).toNat = n at hn
      have pp := pow_pos n
      have pl := pow_lt n
      generalize 1009 ^ n = pw at pp pl
      refine ⟨_, rfl, (10 : Int), (18 : Int), rfl, rfl, ⟨by decide, by decide, by decide⟩, _, _, rfl, rfl, _, rfl, _, (pw : Int), rfl, rfl, wide_div (b := 10 * n + 1) (by omega) (by simpa using pl) (by omega) (by omega), ?_⟩
      refine ⟨_, rfl, _, _, rfl, rfl, _, rfl, ?_⟩
      refine if_both ?_ ?_
      · refine ⟨_, rfl, .inl ⟨_, rfl, _, (1009 : Int), rfl, rfl, (by show (0 : Int) < 1009; decide), .inl ⟨_, rfl, _, rfl, _, (b : Int), rfl, rfl, (by show (0 : Int) < (b : Int); omega), ?_⟩⟩⟩
        obtain ⟨r, er, hr'⟩ := nat_of (Int.emod_nonneg ((c - 10 ^ (18 : Int).toNat) / (pw : Int) % 1009) (show (b : Int) ≠ 0 by omega)) (Int.emod_lt_of_pos _ (show (0 : Int) < (b : Int) by omega)) rfl
        show Q (.int ((c - 10 ^ (18 : Int).toNat) / (pw : Int) % 1009 % (b : Int))) _
        rw [er]
        exact q r _ hr' (Same.refl _)
      · refine ⟨_, rfl, .inl ⟨_, rfl, _, (1000003 : Int), rfl, rfl, (by show (0 : Int) < 1000003; decide), ?_⟩⟩
        have s0 : 0 ≤ c % 1000003 := Int.emod_nonneg _ (by decide)
        have s1 : c % 1000003 < 1000003 := Int.emod_lt_of_pos _ (by decide)
        show gName 6 (.int (c % 1000003)) _ _ _
        generalize c % 1000003 = sm at s0 s1
        refine ⟨_, rfl, _, rfl, (977 : Int), (k : Int), rfl, rfl, .inl (by constructor <;> decide), _, _, rfl, rfl, _, rfl, _, rfl, (31 : Int), (k : Int), rfl, rfl, .inl (by constructor <;> decide), _, _, rfl, rfl, _, (5 : Int), rfl, rfl, sm + 977 * (k : Int), sm + 31 * (k : Int) + 5, rfl, rfl, .inl (by constructor <;> omega), ?_⟩
        show gName 7 (.int ((sm + 977 * (k : Int)) * (sm + 31 * (k : Int) + 5))) _ _ _
        have hbl : ((sm + 977 * (k : Int)) * (sm + 31 * (k : Int) + 5)).natAbs < 2 ^ 63 := by
          have := wide_lt (i := sm + 977 * (k : Int)) (j := sm + 31 * (k : Int) + 5) (a := 20) (b := 20) (by omega) (by omega)
          exact Nat.lt_trans this (by decide)
        generalize (sm + 977 * (k : Int)) * (sm + 31 * (k : Int) + 5) = bl at hbl
        refine ⟨_, rfl, _, rfl, .inl ⟨_, rfl, _, (9 : Int), rfl, rfl, (by show (0 : Int) < 9; decide), _, (1 : Int), rfl, rfl, bl, k % 9 + 1, 999983, rfl, hbl, by omega, by decide, fun r H' hr s' => ?_⟩⟩
        refine .inl ⟨_, rfl, _, rfl, _, (b : Int), rfl, rfl, (by show (0 : Int) < (b : Int); omega), ?_⟩
        obtain ⟨r', er, hr'⟩ := nat_of (Int.emod_nonneg (r : Int) (show (b : Int) ≠ 0 by omega)) (Int.emod_lt_of_pos _ (show (0 : Int) < (b : Int) by omega)) rfl
        show Q (.int ((r : Int) % (b : Int))) _
        rw [er]
        exact q r' _ hr' s'
/-! ### next -/
structure Dr (H : Hp) (d s : Addr) (cs : List Int) : Prop where
  ex : ∃ n : Nat, H d = some (.lst [.ref s, .int 0, iv n])
  sc : H s = some (.lst (cs.map V.int))
  ne : s ≠ d
theorem Dr.same {H H' : Hp} {d s : Addr} {cs : List Int} (h : Dr H d s cs) (e : Same H H') : Dr H' d s cs := by
  obtain ⟨n, z⟩ := h.ex
  exact ⟨⟨n, e _ _ z⟩, e _ _ h.sc, h.ne⟩
theorem Dr.keep {H H' : Hp} {d s : Addr} {cs : List Int} {S : List Addr} (h : Dr H d s cs) (e : Keep S H H') (h1 : d ∉ S) (h2 : s ∉ S) : Dr H' d s cs := by
  obtain ⟨n, z⟩ := h.ex
  exact ⟨⟨n, e _ _ z h1⟩, e _ _ h.sc h2, h.ne⟩
def spNext (K : PySem.W.Frag) : Sp := fun vs H Q _ => ∃ (d s : Addr) (cs : List Int) (b : Nat), vs = [.ref d, iv b] ∧ Dr H d s cs ∧ 0 < b ∧ ∀ (r : Nat) H', r < b → Keep [d] H H' → Dr H' d s cs → Q (iv r) H'
theorem k_next (T : Tx K mg) : Cal P w K mg base 3 "_law_next" (spNext K) [] := by
  obtain ⟨fd, F⟩ := T.F_L_next
  refine calOf F (bL_next F) T.g__law_next scL_next (fun vs H Q E h => ?_) (fun cdv A outer s H vs Q E hr h => ?_)
  · obtain ⟨d, s, cs, b, rfl, _⟩ := h
    rfl
  · obtain ⟨d, sa, cs, b, rfl, ⟨⟨n, hd⟩, hs, ne⟩, hb, q⟩ := h
    refine ⟨_, pss_cons (ps_asg (pe_op op_add (pe_ix ix_list (pv 0) pe_int (fun _ _ => rfl)) pe_int) (pg_sub (pv 0) pe_int set_list))
      (pss_cons (ps_set (i := 2) scL_next.nd rfl (Or.inl rfl) (pe_op op_fdiv (pe_ix ix_list (pv 0) pe_int (fun _ _ => rfl)) pe_int))
      (pss_cons (ps_set (i := 3) scL_next.nd rfl (Or.inl rfl) (pe_op op_add (pe_c (k_cell T) hr (by decide) rfl (pa_cons (pe_ix ix_list (pv 0) pe_int (fun _ _ => rfl)) (pa_cons (pe_op op_add (pe_ix ix_list (pv 0) pe_int (fun _ _ => rfl)) (pv 2)) pa_nil))) (pe_op op_mul pe_int (pv 2))))
      (pss_one (ps_ret (pe_c (k_number T) hr (by decide) rfl (pa_cons (pv 3) (pa_cons (pe_op op_add (pe_op op_mod (pe_callTy call_int1 rfl T.n_int boot_int_ (pa_cons (pe_ix ix_list (pv 0) pe_int (fun _ _ => rfl)) pa_nil)) pe_int) pe_int) (pa_cons (pv 1) pa_nil)))))))), ?_⟩
    refine ⟨_, rfl, d, _, 2, _, rfl, rfl, sqL hd, rfl, _, (1 : Int), rfl, rfl, _, rfl, d, _, 2, 2, rfl, rfl, hd, rfl, ?_⟩
    have hd1 : upd H d (.lst ([V.ref sa, V.int 0, iv n].set 2 (.int ((n : Int) + 1)))) d = some (.lst [.ref sa, .int 0, iv (n + 1)]) := upd_same
    have k1 : Keep [d] H (upd H d (.lst ([V.ref sa, V.int 0, iv n].set 2 (.int ((n : Int) + 1))))) := keep_upd Keep.refl
    have hs1 := k1 _ _ hs (by simpa using ne)
    show ((tSeq _ _ : TS)) _ _ (upd H d (.lst ([V.ref sa, V.int 0, iv n].set 2 (.int ((n : Int) + 1)))))
    generalize upd H d (.lst ([V.ref sa, V.int 0, iv n].set 2 (.int ((n : Int) + 1)))) = H1 at hd1 k1 hs1
    refine ⟨_, rfl, d, _, 2, _, rfl, rfl, sqL hd1, rfl, ((n + 1 : Nat) : Int), (12 : Int), rfl, rfl, ⟨by decide, by decide⟩, ?_⟩
    show gName 2 (.int (((n + 1 : Nat) : Int) / 12)) _ _ _
    rw [show ((n + 1 : Nat) : Int) / 12 = (((n + 1) / 12 : Nat) : Int) from by omega]
    generalize (n + 1) / 12 = a
    refine ⟨_, rfl, d, _, 0, _, rfl, rfl, sqL hd1, rfl, _, rfl, d, _, 1, _, rfl, rfl, sqL hd1, rfl, _, rfl, (0 : Int), (a : Int), rfl, rfl, sa, cs, a, ?_, hs1, fun v => ?_⟩
    · show [V.ref sa, V.int (0 + (a : Int))] = _
      rw [Int.zero_add]
    · refine ⟨_, rfl, (31 : Int), (a : Int), rfl, rfl, .inl (by constructor <;> decide), _, _, rfl, rfl, ?_⟩
      refine ⟨_, rfl, _, rfl, d, _, 2, _, rfl, rfl, sqL hd1, rfl, .inl ⟨_, rfl, ((n + 1 : Nat) : Int), (12 : Int), rfl, rfl, (by show (0 : Int) < 12; decide), _, (1 : Int), rfl, rfl, _, rfl, v + 31 * (a : Int), (n + 1) % 12 + 1, b, rfl, by omega, hb, fun r H' hr s' => ?_⟩⟩
      exact q r H' hr (k1.trans (Keep.of s')) ⟨⟨n + 1, s' _ _ hd1⟩, s' _ _ hs1, ne⟩
/-! ### pick -/
def spPick (K : PySem.W.Frag) : Sp := fun vs H Q _ => ∃ (d s a : Addr) (cs : List Int) (xs : List V), vs = [.ref d, .ref a] ∧ Dr H d s cs ∧ H a = some (.lst xs) ∧ a ≠ d ∧ xs ≠ [] ∧ ∀ (i : Nat) (x : V) H', xs[i]? = some x → Keep [d] H H' → Dr H' d s cs → Q x H'
theorem k_pick (T : Tx K mg) : Cal P w K mg base 4 "_law_pick" (spPick K) [] := by
  obtain ⟨fd, F⟩ := T.F_L_pick
  refine calOf F (bL_pick F) T.g__law_pick scL_pick (fun vs H Q E h => ?_) (fun cdv A outer s H vs Q E hr h => ?_)
  · obtain ⟨d, s, a, cs, xs, rfl, _⟩ := h
    rfl
  · obtain ⟨d, sa, a, cs, xs, rfl, hd, ha, ne, nn, q⟩ := h
    refine ⟨_, pss_one (ps_ret (pe_ix ix_list (pv 1) (pe_c (k_next T) hr (by decide) rfl (pa_cons (pv 0) (pa_cons (pe_callB call_len_seq rfl T.n_len PySem.boot_len (pa_cons (pv 1) pa_nil)) pa_nil))) (fun _ _ => rfl))), ?_⟩
    refine ⟨_, rfl, _, rfl, _, rfl, a, _, rfl, .inl (sqL ha), d, sa, cs, xs.length, rfl, hd, List.length_pos_iff.mpr nn, fun r H' hr k' d' => ?_⟩
    have ex : xs[r]? = some xs[r] := List.getElem?_eq_getElem hr
    exact ⟨a, _, (r : Int), _, rfl, rfl, sqL (k' _ _ ha (by simpa using ne)), atI_nat ex, q r _ H' ex k' d'⟩
end
end Des
end T_D13
section T_D14
set_option linter.all false
set_option maxRecDepth 100000
set_option maxHeartbeats 600000
namespace Des
open PySem PySem.Spec PyProof.Rows L2
open C8 (Cal Met Mak pe_c pe_mk pe_mt pe_mt0)
open StX (pa_star)
/-! ### a table that grows -/
structure Gr (cl : List Nat) (pa : List (Nat × Nat × Nat)) : Prop where
  c2 : ∀ s, cl.getD s 0 ≤ 2
  z0 : cl.getD 0 0 = 0
  n0 : 0 < cl.length
  asc : pa.Pairwise (fun a b => a.1 < b.1)
  par : ∀ p ∈ pa, p.1 < cl.length ∧ p.2.1 < p.1 ∧ p.2.2 < p.1 ∧ cl.getD p.1 0 = 0 ∧ cl.getD p.2.1 0 = 0
  dist : (pa.map (·.2)).Nodup
theorem getD_app {cl : List Nat} {c s : Nat} : (cl ++ [c]).getD s 0 = if s < cl.length then cl.getD s 0 else if s = cl.length then c else 0 := by
  rw [List.getD_eq_getElem?_getD, List.getD_eq_getElem?_getD]
  split
  · rename_i h
    rw [List.getElem?_append_left h]
  · rename_i h
    rw [List.getElem?_append_right (by omega)]
    split
    · rename_i e
      subst e
      simp
    · rw [List.getElem?_eq_none (by simp; omega)]
      rfl
theorem gr_one : Gr [0] [] := ⟨fun s => by cases s <;> simp, rfl, by simp, .nil, fun p h => by simp at h, by simp⟩
theorem gr_cl {cl : List Nat} {pa : List (Nat × Nat × Nat)} {c : Nat} (g : Gr cl pa) (h : c ≤ 2) : Gr (cl ++ [c]) pa := by
  refine ⟨fun s => ?_, ?_, by simp, g.asc, fun p hp => ?_, g.dist⟩
  · rw [getD_app]
    split
    · exact g.c2 s
    · split
      · exact h
      · omega
  · rw [getD_app, if_pos g.n0]; exact g.z0
  · obtain ⟨a1, a2, a3, a4, a5⟩ := g.par p hp
    refine ⟨by rw [List.length_append]; omega, a2, a3, ?_, ?_⟩
    · rw [getD_app, if_pos a1]; exact a4
    · rw [getD_app, if_pos (by omega)]; exact a5
theorem gr_part {cl : List Nat} {pa : List (Nat × Nat × Nat)} {a b : Nat} (g : Gr cl pa) (ha : a < cl.length) (hz : cl.getD a 0 = 0) (hb : b < cl.length) (hn : (a, b) ∉ pa.map (·.2)) : Gr (cl ++ [0]) (pa ++ [(cl.length, a, b)]) := by
  have g' := gr_cl (c := 0) g (by omega)
  refine ⟨g'.c2, g'.z0, g'.n0, ?_, fun p hp => ?_, ?_⟩
  · rw [List.pairwise_append]
    refine ⟨g.asc, by simp, fun x hx y hy => ?_⟩
    rw [List.mem_singleton] at hy
    subst hy
    exact (g.par x hx).1
  · rcases List.mem_append.mp hp with q | q
    · exact g'.par p q
    · rw [List.mem_singleton] at q
      subst q
      refine ⟨by simp, ha, hb, ?_, ?_⟩
      · rw [getD_app]; simp
      · show (cl ++ [0]).getD a 0 = 0
        rw [getD_app, if_pos ha]; exact hz
  · rw [List.map_append, List.nodup_append]
    refine ⟨g.dist, by simp, fun x hx y hy => ?_⟩
    simp only [List.map_cons, List.map_nil, List.mem_singleton] at hy
    subst hy
    exact fun z => hn (by rw [← z]; exact hx)
section
variable {P : Program} {w : World} {K : PySem.W.Frag} {mg : Str → Option Value} {base : Heap}
def TwoR (H : Hp) (t : Addr) (q : Nat × Nat × Nat) : Prop := H t = some (.tup [iv q.2.1, iv q.2.2])
def twoD (q : Nat × Nat × Nat) : PyData := dT [q.2.1, q.2.2]
theorem dp_twos {H : Hp} : ∀ {ts : List Addr} {l : List (Nat × Nat × Nat)}, Paired (TwoR H) ts l → DpAll K H (ts.map V.ref) (l.map twoD)
  | _, _, .nil => .nil
  | _, _, .cons r t => .cons (dp_text (ns := [_, _]) (tupT r)) (dp_twos t)
theorem lay_twos : ∀ l : List (Nat × Nat × Nat), PyData.canLayAll0 (l.map twoD) = true
  | [] => by simp [PyData.canLayAll0]
  | e :: l => by
    rw [List.map_cons]
    simp only [PyData.canLayAll0]
    rw [show PyData.canLayAll0 (l.map twoD) = true from lay_twos l]
    simp [twoD, dT, dI, PyData.canLay0, PyData.canLayAll0]
theorem depth_twos : ∀ l : List (Nat × Nat × Nat), PyData.depthAll (l.map twoD) ≤ 1
  | [] => by simp [PyData.depthAll]
  | e :: l => by
    rw [List.map_cons]
    simp only [PyData.depthAll]
    have := depth_twos l
    have h2 : (twoD e).depth = 1 := by simp [twoD, dT, dI, PyData.depth, PyData.depthAll]
    rw [h2]
    omega
theorem shaped_twos (l : List (Nat × Nat × Nat)) : SeqAt.shaped (.list (l.map twoD)) = true := by
  unfold SeqAt.shaped
  simp only [PyData.canLay0, PyData.depth, lay_twos, Bool.true_and]
  have := depth_twos l
  exact decide_eq_true (by omega)
theorem any_twos (a b : Nat) : ∀ l : List (Nat × Nat × Nat), ((l.map twoD).any fun z => PyData.eqv z (dT [a, b])) = decide ((a, b) ∈ l.map (·.2))
  | [] => by simp
  | q :: l => by
    rw [List.map_cons, List.any_cons, any_twos a b l]
    show (PyData.eqv (dT [q.2.1, q.2.2]) (dT [a, b]) || _) = _
    rw [eqv_text, pr_two, List.map_cons]
    obtain ⟨x, y, z⟩ := q
    by_cases h : (y, z) = (a, b)
    · rw [show ((y, z) == (a, b)) = true by simpa using h]
      simp [h]
    · rw [show ((y, z) == (a, b)) = false by simpa using h]
      have : decide ((a, b) ∈ (y, z) :: l.map (·.2)) = decide ((a, b) ∈ l.map (·.2)) := by
        rw [Bool.eq_iff_iff, decide_eq_true_eq, decide_eq_true_eq, List.mem_cons]
        exact ⟨fun z => z.resolve_left fun z => h z.symm, .inr⟩
      rw [Bool.false_or]
      exact this.symm
def spLTab (K : PySem.W.Frag) : Sp := fun vs H Q _ => ∃ (d s : Addr) (cs : List Int), vs = [.ref d, .int 6] ∧ Dr H d s cs ∧ ∀ md m H', m.Ok → Keep [d] H H' → Dr H' d s cs → ModAt K H' md m → Q (.ref md) H'
/-- what stands while the table grows -/
structure Gs (K : PySem.W.Frag) (H0 : Hp) (d s : Addr) (cs : List Int) (ca pa pr : Addr) (cl : List Nat) (ps : List (Nat × Nat × Nat)) (H : Hp) : Prop where
  g : Gr cl ps
  k : Keep [d] H0 H
  dr : Dr H d s cs
  c : H ca = some (.lst (cl.map iv))
  p : ∃ xs : List Addr, H pa = some (.lst (xs.map V.ref)) ∧ Paired (PartR K H) xs ps
  t : ∃ ts : List Addr, H pr = some (.lst (ts.map V.ref)) ∧ Paired (TwoR H) ts ps
theorem TwoR.same {H H' : Hp} {t : Addr} {q : Nat × Nat × Nat} (h : TwoR H t q) (e : Imm [] H H') : TwoR H' t q := e.tup h
theorem PartR.imm {H H' : Hp} {t : Addr} {q : Nat × Nat × Nat} (h : PartR K H t q) (e : Imm [] H H') : PartR K H' t q := by
  obtain ⟨u, a, b⟩ := h
  exact ⟨u, e.t a, e.tup b⟩
theorem dr_nf {H : Hp} {d s : Addr} {cs : List Int} (h : Dr H d s cs) {Fx : List Addr} (hd : d ∉ Fx) : ∀ a ∈ [d], ∀ o, H a = some o → ¬ Fxd Fx a o := fun a ha o e => by
  rw [List.mem_singleton] at ha
  subst ha
  obtain ⟨n, z⟩ := h.ex
  rw [z] at e
  rw [← Option.some.inj e]
  exact not_fxd hd (fun _ => by simp) (fun _ _ => by simp)
theorem imm_d {H H' : Hp} {d s : Addr} {cs : List Int} (h : Dr H d s cs) (k : Keep [d] H H') {Fx : List Addr} (hd : d ∉ Fx) : Imm Fx H H' := Imm.keep k (dr_nf h hd)
/-- a draw, or something new -/
theorem Gs.go {H0 H H' : Hp} {d s ca pa pr : Addr} {cs : List Int} {cl : List Nat} {ps : List (Nat × Nat × Nat)} (x : Gs K H0 d s cs ca pa pr cl ps H) (k : Keep [d] H H') (dr : Dr H' d s cs) (n1 : ca ≠ d) (n2 : pa ≠ d) (n3 : pr ≠ d) : Gs K H0 d s cs ca pa pr cl ps H' := by
  have i : Imm [] H H' := imm_d x.dr k (by simp)
  obtain ⟨xs, p1, p2⟩ := x.p
  obtain ⟨ts, t1, t2⟩ := x.t
  exact ⟨x.g, x.k.trans k, dr, k _ _ x.c (by simpa using n1), ⟨xs, k _ _ p1 (by simpa using n2), paired_imp p2 fun _ _ z => z.imm i⟩, ⟨ts, k _ _ t1 (by simpa using n3), paired_imp t2 fun _ _ z => z.same i⟩⟩
theorem Gs.same {H0 H H' : Hp} {d s ca pa pr : Addr} {cs : List Int} {cl : List Nat} {ps : List (Nat × Nat × Nat)} (x : Gs K H0 d s cs ca pa pr cl ps H) (e : Same H H') : Gs K H0 d s cs ca pa pr cl ps H' := by
  have i : Imm [] H H' := Imm.of e
  obtain ⟨xs, p1, p2⟩ := x.p
  obtain ⟨ts, t1, t2⟩ := x.t
  exact ⟨x.g, x.k.trans (Keep.of e), x.dr.same e, e _ _ x.c, ⟨xs, e _ _ p1, paired_imp p2 fun _ _ z => z.imm i⟩, ⟨ts, e _ _ t1, paired_imp t2 fun _ _ z => z.same i⟩⟩
theorem fil_app {f : Nat → Bool} {i : Nat} : (List.range (i + 1)).filter f = (List.range i).filter f ++ (if f i = true then [i] else []) := by
  rw [List.range_succ, List.filter_append]
  congr 1
  cases e : f i <;> simp [e]
theorem lst_nf {Fx : List Addr} {p : Addr} {xs : List V} (h : p ∉ Fx) : ¬ Fxd Fx p (.lst xs) := not_fxd h (fun _ => by simp) (fun _ _ => by simp)
theorem keep0 {H0 H H' : Hp} {S L : List Addr} (k : Keep S H0 H) (k2 : Keep L H H') (n : ∀ a ∈ L, H0 a = none) : Keep S H0 H' := fun a o e ns => k2 a o (k a o e ns) fun z => by
  rw [n a z] at e
  cases e
theorem Gs.addc {H0 H : Hp} {d s ca pa pr : Addr} {cs : List Int} {cl : List Nat} {ps : List (Nat × Nat × Nat)} {c : Nat} (x : Gs K H0 d s cs ca pa pr cl ps H) (hc : c ≤ 2) (n0 : H0 ca = none) (n1 : d ≠ ca) (n2 : s ≠ ca) (n3 : pa ≠ ca) (n4 : pr ≠ ca) :
    Gs K H0 d s cs ca pa pr (cl ++ [c]) ps (upd H ca (.lst (cl.map iv ++ [iv c]))) := by
  have k : Keep [ca] H (upd H ca (.lst (cl.map iv ++ [iv c]))) := keep_upd Keep.refl
  have i : Imm [] H (upd H ca (.lst (cl.map iv ++ [iv c]))) := imm1 k x.c (lst_nf (by simp))
  obtain ⟨xs, p1, p2⟩ := x.p
  obtain ⟨ts, t1, t2⟩ := x.t
  exact ⟨gr_cl x.g hc, keep0 x.k k (by simpa using n0), x.dr.keep k (by simpa using n1) (by simpa using n2), by rw [iv_app]; exact upd_same, ⟨xs, k _ _ p1 (by simpa using n3), paired_imp p2 fun _ _ z => z.imm i⟩, ⟨ts, k _ _ t1 (by simpa using n4), paired_imp t2 fun _ _ z => z.same i⟩⟩
theorem pick_c {i : Nat} {x : V} (h : ([.int 0, .int 1, .int 2, .int 1] : List V)[i]? = some x) : ∃ c : Nat, c ≤ 2 ∧ x = iv c := by
  match i, h with
  | 0, h => exact ⟨0, by omega, (Option.some.inj h).symm⟩
  | 1, h => exact ⟨1, by omega, (Option.some.inj h).symm⟩
  | 2, h => exact ⟨2, by omega, (Option.some.inj h).symm⟩
  | 3, h => exact ⟨1, by omega, (Option.some.inj h).symm⟩
  | n + 4, h => simp at h
theorem k_ltab (T : Tx K mg) : Cal P w K mg base 5 "_law_table" (spLTab K) [] := by
  obtain ⟨fd, F⟩ := T.F_L_table
  refine calOf F (bL_table F) T.g__law_table scL_table (fun vs H Q E h => ?_) (fun cdv A outer s H vs Q E hr h => ?_)
  · obtain ⟨d, s, cs, rfl, _⟩ := h
    rfl
  · obtain ⟨d, sa, cs, rfl, hd, q⟩ := h
    have hu : (A.deeper (envOfC "_law_table" (defScope sL_table) s.heap.objs.size (He.ga K "_law_table") cdv)).units + 65 < cLine := by have := hr.un; omega
    refine ⟨_, pss_cons (ps_set (i := 2) scL_table.nd rfl (Or.inl rfl) (pe_op op_add pe_int (pe_c (k_next T) hr (by decide) rfl (pa_cons (pv 0) (pa_cons (pe_op op_sub (pv 1) pe_int) pa_nil)))))
      (pss_cons (ps_asg (pe_tup (pa_cons (pe_lst (pa_cons pe_int pa_nil)) (pa_cons (pe_lst pa_nil) (pa_cons (pe_lst pa_nil) pa_nil)))) (pg_tup rfl (pgs_cons (pg_name (i := 3) scL_table.nd rfl (Or.inr rfl)) (pgs_cons (pg_name (i := 4) scL_table.nd rfl (Or.inl rfl)) (pgs_cons (pg_name (i := 5) scL_table.nd rfl (Or.inl rfl)) pgs_nil)))))
      (pss_cons (ps_for PassesOwn.never rfl (pi_range2 (by rfl) T.n_range (pa_cons pe_int (pa_cons (pv 2) pa_nil))) (pg_name (i := 6) scL_table.nd rfl (Or.inl rfl))
        (pss_cons (ps_setLc (i := 7) (own := [("_law_one", 10)]) (g := gName 10) (tt := tTest (tOp rEq (tOp (rIxL K) (tVar 3) (tVar 10)) (tC (.int 0)))) (te := tVar 10) (by rfl) scL_table.nd rfl rfl (sw_true rfl rfl rfl (by decide +kernel))
            (pi_range1 rfl T.n_range (pa_cons (pv 6) pa_nil)) (blkOk_by (own := [("_law_one", 10)]) (N := ["_law_draw_here", "_law_most", "_law_many", "_law_classes", "_law_parts", "_law_pairs", "_law_sign", "_law_bases", "_law_two", "_law_shut", "_law_one"]) (sc := defScope sL_table) (by decide +kernel))
            (fun _ _ _ _ _ => pg_name (i := 10) scL_table.nd rfl (Or.inl rfl)) (fun _ _ _ _ _ => pts_one (pt_cmpR op_eq (pe_ix ix_list (pv 3) (pv 10) (fun _ _ => rfl)) pe_int (nomark _))) (fun _ _ _ _ _ => pv 10))
        (pss_cons (ps_set (i := 8) scL_table.nd rfl (Or.inl rfl) (pe_tup (pa_cons (pe_c (k_pick T) hr (by decide) rfl (pa_cons (pv 0) (pa_cons (pv 7) pa_nil))) (pa_cons (pe_c (k_next T) hr (by decide) rfl (pa_cons (pv 0) (pa_cons (pv 6) pa_nil))) pa_nil))))
        (pss_one (ps_if (PW.pt (pw_and (pt_cmpR op_lt (pe_c (k_next T) hr (by decide) rfl (pa_cons (pv 0) (pa_cons pe_int pa_nil))) pe_int (nomark _)) (pw_and1 (pt_cmpR (op_notInD hu) (pv 8) (pv 5) rfl))))
          (pss_cons (ps_expr (pe_bm PySem.F.plainAttrs_list PySem.F.slot_list_append PySem.F.type_list_append mt_append (pv 3) (pa_cons pe_int pa_nil)))
          (pss_cons (ps_expr (pe_bm PySem.F.plainAttrs_list PySem.F.slot_list_append PySem.F.type_list_append mt_append (pv 4) (pa_cons (pe_tup (pa_cons (pv 6) (pa_cons (pv 8) pa_nil))) pa_nil)))
          (pss_one (ps_expr (pe_bm PySem.F.plainAttrs_list PySem.F.slot_list_append PySem.F.type_list_append mt_append (pv 5) (pa_cons (pv 8) pa_nil))))))
          (pss_one (ps_expr (pe_bm PySem.F.plainAttrs_list PySem.F.slot_list_append PySem.F.type_list_append mt_append (pv 3) (pa_cons (pe_c (k_pick T) hr (by decide) rfl (pa_cons (pv 0) (pa_cons (pe_lst (pa_cons pe_int (pa_cons pe_int (pa_cons pe_int (pa_cons pe_int pa_nil))))) pa_nil))) pa_nil)))))))))
      (pss_cons (ps_set (i := 9) scL_table.nd rfl (Or.inl rfl) (pe_callTy call_tuple_of rfl T.n_tuple boot_tuple_ (pa_cons
          (pe_lc (own := [("_law_sign", 6), ("_law_two", 8)]) (g := gTup K 2 (gCons (gName 6) (gCons (gName 8) gNil))) (tt := tTest (tOp rEq (tCall (spNext K) [] C8.E0 (tCons (tVar 0) (tCons (tC (.int 4)) tNil))) (tC (.int 0)))) (te := tVar 6) rfl scL_table.nd
            (pi_list (pv 4)) (blkOk_by (own := [("_law_sign", 6), ("_law_two", 8)]) (N := ["_law_draw_here", "_law_most", "_law_many", "_law_classes", "_law_parts", "_law_pairs", "_law_sign", "_law_bases", "_law_two", "_law_shut", "_law_one"]) (sc := defScope sL_table) (by decide +kernel))
            (fun _ _ _ _ _ => pg_tup rfl (pgs_cons (pg_name (i := 6) scL_table.nd rfl (Or.inl rfl)) (pgs_cons (pg_name (i := 8) scL_table.nd rfl (Or.inl rfl)) pgs_nil)))
            (fun _ _ _ _ _ => pts_one (pt_cmpR op_eq (pe_c (k_next T) hr (by decide) rfl (pa_cons (pv 0) (pa_cons pe_int pa_nil))) pe_int (nomark _))) (fun _ _ _ _ _ => pv 6)) pa_nil)))
      (pss_one (ps_ret (pe_tup (pa_cons (pe_callTy call_tuple_of rfl T.n_tuple boot_tuple_ (pa_cons (pv 3) pa_nil)) (pa_cons (pe_callTy call_tupleZ rfl T.n_tuple boot_tuple_ (pa_cons (pv 4) pa_nil)) (pa_cons (pv 9)
        (pa_cons (pe_c (k_pick T) hr (by decide) rfl (pa_cons (pv 0) (pa_cons (pe_lst (pa_cons pe_str (pa_cons pe_str (pa_cons pe_str pa_nil)))) pa_nil))) pa_nil)))))))))), ?_⟩
    refine ⟨_, rfl, _, rfl, _, (1 : Int), rfl, rfl, d, sa, cs, 5, rfl, hd, by decide, fun r H1 hr1 k1 d1 => ⟨(2 : Int), (r : Int), rfl, rfl, ?_⟩⟩
    show gName 2 (.int (2 + (r : Int))) _ _ _
    rw [show 2 + (r : Int) = ((r + 2 : Nat) : Int) by omega]
    have hM : r + 2 ≤ 6 := by omega
    have hM2 : 2 ≤ r + 2 := by omega
    generalize r + 2 = M at hM hM2
    refine ⟨line_of (by simp), fun ca hca => ⟨line_of (by simp), fun pa hpa => ⟨line_of (by simp), fun pr hpr => ⟨line_of (by simp), fun p4 hp4 => ?_⟩⟩⟩⟩
    have e1 := same_new (o := .lst [.int 0]) hca
    have e2 := same_new (o := .lst []) hpa
    have e3 := same_new (o := .lst []) hpr
    have e4 := same_new (o := .tup [.ref ca, .ref pa, .ref pr]) hp4
    have c1 : upd H1 ca (.lst [.int 0]) ca = some (.lst [.int 0]) := upd_same
    have c2 : upd (upd H1 ca (.lst [.int 0])) pa (.lst []) pa = some (.lst []) := upd_same
    have c3 : upd (upd (upd H1 ca (.lst [.int 0])) pa (.lst [])) pr (.lst []) pr = some (.lst []) := upd_same
    have e14 := e1.trans (e2.trans (e3.trans e4))
    obtain ⟨nn, hdd⟩ := d1.ex
    have n_dca : d ≠ ca := ne_of_none hdd hca
    have n_sca : sa ≠ ca := ne_of_none d1.sc hca
    have n_dpa : d ≠ pa := ne_of_none (e1 _ _ hdd) hpa
    have n_spa : sa ≠ pa := ne_of_none (e1 _ _ d1.sc) hpa
    have n_dpr : d ≠ pr := ne_of_none (e2 _ _ (e1 _ _ hdd)) hpr
    have n_spr : sa ≠ pr := ne_of_none (e2 _ _ (e1 _ _ d1.sc)) hpr
    have n_cp : ca ≠ pa := ne_of_none c1 hpa
    have n_cr : ca ≠ pr := ne_of_none (e2 _ _ c1) hpr
    have n_pr : pa ≠ pr := ne_of_none c2 hpr
    have back : ∀ {a : Addr}, H1 a = none → a ≠ d → H a = none := fun {a} e n => by
      cases z : H a with
      | none => rfl
      | some o => rw [k1 a o z (by simpa using n)] at e; cases e
    have f_ca : H ca = none := back hca n_dca.symm
    have f_pa : H pa = none := back (e1.free hpa) n_dpa.symm
    have f_pr : H pr = none := back ((e1.trans e2).free hpr) n_dpr.symm
    have gs0 : Gs K H d sa cs ca pa pr [0] [] (upd (upd (upd (upd H1 ca (.lst [.int 0])) pa (.lst [])) pr (.lst [])) p4 (.tup [.ref ca, .ref pa, .ref pr])) :=
      ⟨gr_one, k1.trans (Keep.of e14), d1.same e14, (e2.trans (e3.trans e4)) _ _ c1, ⟨[], (e3.trans e4) _ _ c2, .nil⟩, ⟨[], e4 _ _ c3, .nil⟩⟩
    refine ⟨p4, _, rfl, new_t, rfl, _, _, rfl, _, _, rfl, _, _, rfl, rfl, ?_⟩
    generalize upd (upd (upd (upd H1 ca (.lst [.int 0])) pa (.lst [])) pr (.lst [])) p4 (.tup [.ref ca, .ref pa, .ref pr]) = H2 at gs0
    refine ⟨_, rfl, 1, _, rfl, ⟨by decide, by decide, ?_, ?_⟩, ?_⟩
    · omega
    · omega
    rw [show ((M : Int) - 1).toNat = M - 1 by omega]
    refine for_range (lo := 1) (n := M - 1) (fun i σ H' => ∃ cl ps o6 o7 o8, cl.length = i + 1 ∧ Gs K H d sa cs ca pa pr cl ps H' ∧ σ = [some (.ref d), some (.int 6), some (iv M), some (.ref ca), some (.ref pa), some (.ref pr), o6, o7, o8, none, none]) ⟨[0], [], _, _, _, rfl, gs0, rfl⟩
      (fun i σ H' hi hp => ?_) (fun σ H' hp => ?_)
    · obtain ⟨cl, ps, o6, o7, o8, hl, gs, rfl⟩ := hp
      show gName 6 _ _ _ _
      rw [show (V.int (1 + (i : Int))) = iv cl.length from by rw [hl]; congr 1; omega]
      have hl6 : cl.length ≤ 6 := by omega
      have hps6 : ps.length ≤ 6 := by
        have := asc_len (k := 0) (n := cl.length) gs.g.asc fun p hp => ⟨Nat.zero_le _, (gs.g.par p hp).1⟩
        omega
      refine ⟨_, rfl, (cl.length : Int), rfl, by omega, by omega, fun D hD => ?_⟩
      have hDd : D ≠ d := by
        obtain ⟨n', z⟩ := gs.dr.ex
        exact (ne_of_none z hD).symm
      refine lc_range (lo := 0) (n := cl.length) (fun j H2 => Same H' H2 ∧ H2 D = some (.lst (((List.range j).filter fun x => decide (cl.getD x 0 = 0)).map iv))) ⟨same_new hD, upd_same⟩ (fun j H2 hj hp => ?_) (fun H2 hp => ?_)
      · obtain ⟨sm, hL⟩ := hp
        have hat : atI (List.map iv cl) (0 + (j : Int)) = some (iv (cl.getD j 0)) := by
          rw [Int.zero_add]
          exact atI_nat (by rw [List.getElem?_map, getD_at hj]; rfl)
        refine ⟨rfl, _, rfl, _, rfl, ca, _, 0 + (j : Int), _, rfl, rfl, sqL (sm _ _ gs.c), hat, rfl, _, rfl, ?_⟩
        rw [show decide (V.int ((cl.getD j 0 : Nat) : Int) = V.int 0) = decide (cl.getD j 0 = 0) from dec_nat _ 0, fil_app]
        by_cases z : cl.getD j 0 = 0
        · rw [decide_eq_true z]
          refine iteT ⟨_, rfl, _, hL, ?_, fun a o e => ?_, ?_⟩
          · refine line_lt ?_
            have := List.length_filter_le (fun x => decide (cl.getD x 0 = 0)) (List.range j)
            rw [List.length_range] at this
            rw [List.length_map]
            omega
          · rw [upd_ne (ne_of_none e hD)]
            exact sm a o e
          · rw [Int.zero_add, if_pos rfl, iv_app]
            exact upd_same
        · rw [decide_eq_false z]
          refine iteF ⟨sm, ?_⟩
          rw [if_neg (by simp), List.append_nil]
          exact hL
      · obtain ⟨sm, hL⟩ := hp
        have gs := gs.same sm
        have nB : ((List.range cl.length).filter fun x => decide (cl.getD x 0 = 0)) ≠ [] := fun z => by
          have : (0 : Nat) ∈ ((List.range cl.length).filter fun x => decide (cl.getD x 0 = 0)) := List.mem_filter.mpr ⟨List.mem_range.mpr (by omega), decide_eq_true gs.g.z0⟩
          rw [z] at this
          simp at this
        refine ⟨_, rfl, _, rfl, d, sa, D, cs, _, rfl, gs.dr, hL, hDd, (fun z => nB (List.map_eq_nil_iff.mp z)), fun i0 x H3 ex k3 d3 => ?_⟩
        obtain ⟨av, ea, rfl⟩ := map_at ex
        have hav := List.mem_filter.mp (List.mem_of_getElem? ea)
        have hav1 : av < cl.length := List.mem_range.mp hav.1
        have hav2 : cl.getD av 0 = 0 := of_decide_eq_true hav.2
        have gs := gs.go k3 d3 n_dca.symm n_dpa.symm n_dpr.symm
        refine ⟨_, rfl, _, rfl, d, sa, cs, cl.length, rfl, gs.dr, by omega, fun bv H4 hbv k4 d4 => ?_⟩
        have gs := gs.go k4 d4 n_dca.symm n_dpa.symm n_dpr.symm
        refine ⟨line_of (by simp), fun t2 ht2 => ?_⟩
        have s5 := same_new (o := .tup [iv av, iv bv]) ht2
        have gs := gs.same s5
        have tt2 : upd H4 t2 (.tup [iv av, iv bv]) t2 = some (.tup [iv av, iv bv]) := upd_same
        generalize upd H4 t2 (.tup [iv av, iv bv]) = H5 at gs tt2 ⊢
        refine ⟨_, rfl, d, sa, cs, 5, rfl, gs.dr, by decide, fun r5 H6 hr5 k6 d6 => ⟨_, (2 : Int), rfl, rfl, _, rfl, ?_⟩⟩
        have i6 : Imm [] H5 H6 := imm_d gs.dr k6 (by simp)
        have gs := gs.go k6 d6 n_dca.symm n_dpa.symm n_dpr.symm
        have tt2 := i6.tup tt2
        refine if_both ?_ ?_
        · obtain ⟨ts, t1, t3⟩ := id gs.t
          refine ⟨_, rfl, _, rfl, dT [av, bv], ps.map twoD, dp_text (tupT tt2), .lst (sqL t1) (dp_twos t3), shaped_text _, shaped_twos _, _, rfl, ?_⟩
          rw [any_twos]
          by_cases hin : (av, bv) ∈ ps.map (·.2)
          · rw [decide_eq_true hin]
            refine iteF ?_
            refine ⟨_, rfl, .inl ⟨rfl, _, sqL gs.c⟩, _, rfl, line_of (by simp), fun p9 hp9 => ?_⟩
            have gs9 := gs.same (same_new (o := .lst [.int 0, .int 1, .int 2, .int 1]) hp9)
            refine ⟨d, sa, p9, cs, _, rfl, gs9.dr, upd_same, (fun z => by obtain ⟨n', z'⟩ := gs.dr.ex; rw [← z, hp9] at z'; cases z'), (by simp), fun i1 x H8 ex k8 d8 => ?_⟩
            obtain ⟨cv, hcv, rfl⟩ := pick_c ex
            have gs10 := gs9.go k8 d8 n_dca.symm n_dpa.symm n_dpr.symm
            refine ⟨ca, _, _, rfl, rfl, gs10.c, line_lt (by rw [List.length_map]; omega), ?_⟩
            exact ⟨cl ++ [cv], ps, _, _, _, by simp; omega, gs10.addc hcv f_ca n_dca n_sca n_cp.symm n_cr.symm, rfl⟩
          · rw [decide_eq_false hin]
            refine iteT ?_
            refine ⟨_, rfl, .inl ⟨rfl, _, sqL gs.c⟩, ca, _, _, rfl, rfl, gs.c, line_lt (by rw [List.length_map]; omega), ?_⟩
            obtain ⟨xs, p1, p3⟩ := id gs.p
            have lx : xs.length = ps.length := paired_len p3
            have lt : ts.length = ps.length := paired_len t3
            have ka : Keep [ca] H6 (upd H6 ca (.lst (cl.map iv ++ [.int 0]))) := keep_upd Keep.refl
            have ia : Imm [] H6 (upd H6 ca (.lst (cl.map iv ++ [.int 0]))) := imm1 ka gs.c (lst_nf (by simp))
            have ca7 : upd H6 ca (.lst (cl.map iv ++ [.int 0])) ca = some (.lst ((cl ++ [0]).map iv)) := by rw [iv_app]; exact upd_same
            have pa7 := ka _ _ p1 (by simpa using n_cp.symm)
            have pr7 := ka _ _ t1 (by simpa using n_cr.symm)
            generalize upd H6 ca (.lst (cl.map iv ++ [.int 0])) = H7 at ka ia ca7 pa7 pr7 ⊢
            refine ⟨_, rfl, .inl ⟨rfl, _, sqL pa7⟩, _, rfl, _, rfl, line_of (by simp), fun p8 hp8 => ?_⟩
            have s8 := same_new (o := .tup [iv cl.length, .ref t2]) hp8
            have t8 : SqT K (upd H7 p8 (.tup [iv cl.length, .ref t2])) p8 [iv cl.length, .ref t2] := new_t
            have ca8 := s8 _ _ ca7
            have pa8 := s8 _ _ pa7
            have pr8 := s8 _ _ pr7
            have k8 : Keep [ca] H6 _ := ka.trans (Keep.of s8)
            have i8 : Imm [] H6 _ := ia.trans (Imm.of s8)
            generalize upd H7 p8 (.tup [iv cl.length, .ref t2]) = H8 at k8 i8 t8 ca8 pa8 pr8 ⊢
            refine ⟨pa, _, _, rfl, rfl, pa8, line_lt (by rw [List.length_map]; omega), ?_⟩
            have k9' : Keep [pa] H8 (upd H8 pa (.lst (xs.map V.ref ++ [.ref p8]))) := keep_upd Keep.refl
            have i9' : Imm [] H8 (upd H8 pa (.lst (xs.map V.ref ++ [.ref p8]))) := imm1 k9' pa8 (lst_nf (by simp))
            have pa9 : upd H8 pa (.lst (xs.map V.ref ++ [.ref p8])) pa = some (.lst ((xs ++ [p8]).map V.ref)) := by rw [List.map_append]; exact upd_same
            have ca9 := k9' _ _ ca8 (by simpa using n_cp)
            have pr9 := k9' _ _ pr8 (by simpa using n_pr.symm)
            generalize upd H8 pa (.lst (xs.map V.ref ++ [.ref p8])) = H9 at k9' i9' pa9 ca9 pr9 ⊢
            refine ⟨_, rfl, .inl ⟨rfl, _, sqL pr9⟩, _, rfl, pr, _, _, rfl, rfl, pr9, line_lt (by rw [List.length_map]; omega), ?_⟩
            have kA : Keep [pr] H9 (upd H9 pr (.lst (ts.map V.ref ++ [.ref t2]))) := keep_upd Keep.refl
            have iA : Imm [] H9 (upd H9 pr (.lst (ts.map V.ref ++ [.ref t2]))) := imm1 kA pr9 (lst_nf (by simp))
            have iT : Imm [] H6 (upd H9 pr (.lst (ts.map V.ref ++ [.ref t2]))) := i8.trans (i9'.trans iA)
            have kT : Keep [ca, pa, pr] H6 (upd H9 pr (.lst (ts.map V.ref ++ [.ref t2]))) := (k8.mono (by simp)).trans ((k9'.mono (by simp)).trans (kA.mono (by simp)))
            refine ⟨cl ++ [0], ps ++ [(cl.length, av, bv)], _, _, _, by simp; omega, ⟨gr_part gs.g hav1 hav2 hbv hin, keep0 gs.k kT (by simp [f_ca, f_pa, f_pr]), gs.dr.keep kT (by simp [n_dca, n_dpa, n_dpr]) (by simp [n_sca, n_spa, n_spr]), kA _ _ ca9 (by simpa using n_cr),
              ⟨xs ++ [p8], kA _ _ pa9 (by simpa using n_pr), paired_app (paired_imp p3 fun _ _ z => z.imm iT) (.cons ⟨t2, (i9'.trans iA).t t8, iT.tup tt2⟩ .nil)⟩,
              ⟨ts ++ [t2], by rw [List.map_append]; exact upd_same, paired_app (paired_imp t3 fun _ _ z => z.same iT) (.cons (iT.tup tt2) .nil)⟩⟩, rfl⟩
        · refine iteF ?_
          refine ⟨_, rfl, .inl ⟨rfl, _, sqL gs.c⟩, _, rfl, line_of (by simp), fun p9 hp9 => ?_⟩
          have gs9 := gs.same (same_new (o := .lst [.int 0, .int 1, .int 2, .int 1]) hp9)
          refine ⟨d, sa, p9, cs, _, rfl, gs9.dr, upd_same, (fun z => by obtain ⟨n', z'⟩ := gs.dr.ex; rw [← z, hp9] at z'; cases z'), (by simp), fun i1 x H8 ex k8 d8 => ?_⟩
          obtain ⟨cv, hcv, rfl⟩ := pick_c ex
          have gs10 := gs9.go k8 d8 n_dca.symm n_dpa.symm n_dpr.symm
          refine ⟨ca, _, _, rfl, rfl, gs10.c, line_lt (by rw [List.length_map]; omega), ?_⟩
          exact ⟨cl ++ [cv], ps, _, _, _, by simp; omega, gs10.addc hcv f_ca n_dca n_sca n_cp.symm n_cr.symm, rfl⟩
    · obtain ⟨cl, ps, o6, o7, o8, hl, gs, rfl⟩ := hp
      obtain ⟨xs, p1, p3⟩ := id gs.p
      have hlM : cl.length = M := by omega
      refine ⟨_, rfl, pa, rfl, ⟨_, sqL p1⟩, fun D hD => ?_⟩
      obtain ⟨nD, hDD⟩ := gs.dr.ex
      have n_dD : d ≠ D := ne_of_none hDD hD
      have n_sD : sa ≠ D := ne_of_none gs.dr.sc hD
      have hps6 : ps.length ≤ 6 := by
        have := asc_len (k := 0) (n := cl.length) gs.g.asc fun p hp => ⟨Nat.zero_le _, (gs.g.par p hp).1⟩
        omega
      refine lc_list (xs := xs.map V.ref) (fun i H2 => Keep [d] H' H2 ∧ Dr H2 d sa cs ∧ ∃ sh : List Nat, H2 D = some (.lst (sh.map iv)) ∧ sh.length ≤ i ∧ sh.Pairwise (· < ·) ∧ ∀ x ∈ sh, x ∈ (ps.take i).map (·.1))
        ⟨Keep.of (same_new hD), gs.dr.same (same_new hD), [], upd_same, Nat.zero_le _, .nil, fun x hx => by simp at hx⟩ (fun i H2 _ p => sqL (p.1 _ _ p1 (by simpa using n_dpa.symm))) (fun i x H2 hx hp => ?_) (fun H2 hp => ?_)
      · obtain ⟨k2, d2, sh, hL, l1, l2, l3⟩ := hp
        obtain ⟨n, hn, rfl⟩ := map_at hx
        obtain ⟨qv, hq, t, ht1, ht2⟩ := paired_at p3 hn
        have i2 : Imm [] H' H2 := imm_d gs.dr k2 (by simp)
        refine ⟨n, _, rfl, i2.t ht1, rfl, _, _, rfl, _, _, rfl, rfl, rfl, ?_⟩
        refine ⟨_, rfl, d, sa, cs, 4, rfl, d2, by decide, fun r H3 hr k3 d3 => ⟨rfl, _, rfl, ?_⟩⟩
        have hL3 := k3 _ _ hL (by simpa using n_dD.symm)
        have l3' : ∀ x ∈ sh, x ∈ (ps.take (i + 1)).map (·.1) := fun x hx => by
          rw [(cut_at hq).2, List.map_append]
          exact List.mem_append_left _ (l3 x hx)
        have hi6 : i < ps.length := (List.getElem?_eq_some_iff.mp hq).1
        refine if_both ?_ ?_
        · refine ⟨_, rfl, _, hL3, line_lt (by rw [List.length_map]; omega), keep0 (k2.trans k3) (keep_upd Keep.refl) (by simpa using hD), d3.keep (keep_upd Keep.refl : Keep [D] H3 _) (by simpa using n_dD) (by simpa using n_sD), sh ++ [qv.1], ?_, ?_, ?_, fun x hx => ?_⟩
          · rw [iv_app]
            exact upd_same
          · rw [List.length_append, List.length_singleton]
            omega
          · rw [List.pairwise_append]
            refine ⟨l2, by simp, fun x hx y hy => ?_⟩
            rw [List.mem_singleton] at hy
            subst hy
            obtain ⟨z, hz, rfl⟩ := List.mem_map.mp (l3 x hx)
            have := gs.g.asc
            rw [(cut_at hq).1, List.pairwise_append] at this
            exact this.2.2 z hz qv (by simp)
          · rcases List.mem_append.mp hx with z | z
            · exact l3' x z
            · rw [List.mem_singleton] at z
              subst z
              rw [(cut_at hq).2, List.map_append]
              simp
        · exact ⟨k2.trans k3, d3, sh, hL3, by omega, l2, l3'⟩
      · obtain ⟨k2, d2, sh, hL, l1, l2, l3⟩ := hp
        rw [List.length_map, paired_len p3] at l1 l3
        rw [List.take_length] at l3
        have gs2 := gs.go k2 d2 n_dca.symm n_dpa.symm n_dpr.symm
        refine ⟨D, _, rfl, .inl ⟨sqL hL, fun u hu' => ?_⟩⟩
        have s3 := same_new (o := .tup (sh.map iv)) hu'
        have ts3 : TI K (upd H2 u (.tup (sh.map iv))) u sh := new_t
        have gs3 := gs2.same s3
        show gName 9 _ _ _ _
        generalize upd H2 u (.tup (sh.map iv)) = H3 at ts3 gs3
        refine ⟨_, rfl, ca, _, rfl, .inl ⟨sqL gs3.c, fun u1 hu1 => ?_⟩⟩
        have s4 := same_new (o := .tup (cl.map iv)) hu1
        have ts4 : TI K (upd H3 u1 (.tup (cl.map iv))) u1 cl := new_t
        have ts3 := same_t s4 ts3
        have gs4 := gs3.same s4
        generalize upd H3 u1 (.tup (cl.map iv)) = H4 at ts4 ts3 gs4 ⊢
        obtain ⟨xs4, p14, p34⟩ := id gs4.p
        refine ⟨_, rfl, pa, _, rfl, sqL p14, fun u2 o2 hu2 ho2 => ?_⟩
        have s5 := same_new (o := .frz o2 (.tup (xs4.map V.ref))) hu2
        have pt5 : PartsAt K (upd H4 u2 (.frz o2 (.tup (xs4.map V.ref)))) u2 ps := ⟨xs4, ⟨o2, upd_same, ho2⟩, paired_imp p34 fun _ _ z => z.imm (Imm.of s5)⟩
        have ts4 := same_t s5 ts4
        have ts3 := same_t s5 ts3
        have gs5 := gs4.same s5
        generalize upd H4 u2 (.frz o2 (.tup (xs4.map V.ref))) = H5 at pt5 ts4 ts3 gs5 ⊢
        refine ⟨_, rfl, _, rfl, line_of (by simp), fun p9 hp9 => ?_⟩
        have s6 := same_new (o := .lst [.str "joined", .str "joined", .str "apart"]) hp9
        have gs6 := gs5.same s6
        refine ⟨d, sa, p9, cs, _, rfl, gs6.dr, upd_same, (fun z => by obtain ⟨n', z'⟩ := gs5.dr.ex; rw [← z, hp9] at z'; cases z'), (by simp), fun i1 x H8 ex k8 d8 => ?_⟩
        have ej : ∃ jn, x = .str (wy ⟨cl, ps, sh, jn⟩) := by
          match i1, ex with
          | 0, h => exact ⟨true, (Option.some.inj h).symm⟩
          | 1, h => exact ⟨true, (Option.some.inj h).symm⟩
          | 2, h => exact ⟨false, (Option.some.inj h).symm⟩
          | n + 3, h => simp at h
        obtain ⟨jn, rfl⟩ := ej
        have i8 : Imm [] H5 H8 := (Imm.of s6).trans (imm_d gs6.dr k8 (by simp))
        refine ⟨line_of (by simp), fun pA hpA => ?_⟩
        have sA := same_new (o := .tup [.ref u1, .ref u2, .ref u, .str (wy ⟨cl, ps, sh, jn⟩)]) hpA
        have iA := i8.trans (Imm.of sA)
        refine q pA ⟨cl, ps, sh, jn⟩ _ ⟨gs.g.n0, by show cl.length ≤ 6; omega, gs.g.c2, gs.g.asc, gs.g.par, gs.g.dist, l2, l3⟩ ((gs6.k.trans k8).trans (Keep.of sA)) (d8.same sA) ⟨u1, u2, u, new_t, iA.t ts4, pt5.imm iA, iA.t ts3⟩
end
end Des
end T_D14
section T_D16
set_option linter.all false
set_option maxRecDepth 100000
set_option maxHeartbeats 600000
namespace Des
open PySem PySem.Spec PyProof.Rows L2
open C8 (Cal Met Mak pe_c pe_mk pe_mt pe_mt0)
open StX (pa_star)
/-- what stands while the law runs -/
structure Wd (K : PySem.W.Frag) (H : Hp) (d s md p r tb : Addr) (cs : List Int) (m : Mo) (hs : Hist) (fl : Nat) : Prop where
  dr : Dr H d s cs
  mo : ModAt K H md m
  ta : TabAt K H tb m
  dk : DeskAt K H p tb m hs fl
  rw_ : RowsAt K H r hs
  ok : m.Ok
  ho : HOk m hs
  ndr : d ≠ r
  nsr : s ≠ r
  fl_ : fl ≤ hs.length
section
variable {K : PySem.W.Frag} {H H' : Hp} {d s md p r tb : Addr} {cs : List Int} {m : Mo} {hs : Hist} {fl : Nat}
theorem Wd.same (w : Wd K H d s md p r tb cs m hs fl) (e : Same H H') : Wd K H' d s md p r tb cs m hs fl :=
  ⟨w.dr.same e, w.mo.same e, w.ta.same e, w.dk.same e, w.rw_.same e, w.ok, w.ho, w.ndr, w.nsr, w.fl_⟩
theorem tab_ins (h : TabAt K H tb m) : ∃ dx c r s, H tb = some (.ins (He.ga K "Table") dx (tF c r s)) := by
  obtain ⟨dx, c, r, s, h1, _⟩ := h.ex
  exact ⟨dx, c, r, s, h1⟩
theorem Wd.np (w : Wd K H d s md p r tb cs m hs fl) : d ≠ p ∧ s ≠ p ∧ r ≠ p ∧ tb ≠ p ∧ tb ≠ d ∧ tb ≠ r := by
  obtain ⟨n, e1⟩ := w.dr.ex
  have e2 := w.dr.sc
  obtain ⟨dx, b, k, e3, _⟩ := w.dk
  obtain ⟨q0, t0, rv, e4, _⟩ := w.rw_
  obtain ⟨dy, c, r', s', e5⟩ := tab_ins w.ta
  refine ⟨fun z => ?_, fun z => ?_, fun z => ?_, fun z => ?_, fun z => ?_, fun z => ?_⟩
  · rw [z, e3] at e1; cases e1
  · rw [z, e3] at e2; cases e2
  · rw [z, e3] at e4; cases e4
  · rw [z, e3] at e5
    injection e5 with e5
    injection e5 with _ _ e
    injection e with _ e
    injection e with _ e
    cases e
  · rw [z, e1] at e5; cases e5
  · rw [z, e4] at e5; cases e5
/-- a draw -/
theorem Wd.draw (w : Wd K H d s md p r tb cs m hs fl) (k : Keep [d] H H') (dr : Dr H' d s cs) : Wd K H' d s md p r tb cs m hs fl := by
  obtain ⟨n1, n2, n3, n4, n5, n6⟩ := w.np
  have i : Imm [tb] H H' := imm_d w.dr k (by simpa using n5.symm)
  have i0 : Imm [] H H' := imm_d w.dr k (by simp)
  exact ⟨dr, w.mo.imm i0, w.ta.imm i (by simp), w.dk.imm i0 fun o e => k _ _ e (by simpa using n1.symm), w.rw_.imm i0 fun o e => k _ _ e (by simpa using w.ndr.symm), w.ok, w.ho, w.ndr, w.nsr, w.fl_⟩
/-- the desk is another one -/
structure Wp (K : PySem.W.Frag) (H : Hp) (d s md p r tb : Addr) (cs : List Int) (m : Mo) (hs hs' : Hist) (fl : Nat) : Prop where
  dr : Dr H d s cs
  mo : ModAt K H md m
  ta : TabAt K H tb m
  dk : DeskAt K H p tb m hs' fl
  rw_ : RowsAt K H r hs
theorem Wp.same {hs' : Hist} (w : Wp K H d s md p r tb cs m hs hs' fl) (e : Same H H') : Wp K H' d s md p r tb cs m hs hs' fl :=
  ⟨w.dr.same e, w.mo.same e, w.ta.same e, w.dk.same e, w.rw_.same e⟩
theorem Wd.desk {hs' : Hist} {fl' : Nat} (w : Wd K H d s md p r tb cs m hs fl) (k : Keep [p] H H') (dk : DeskAt K H' p tb m hs' fl') : Wp K H' d s md p r tb cs m hs hs' fl' := by
  obtain ⟨n1, n2, n3, n4, n5, n6⟩ := w.np
  obtain ⟨dx, b, kk, e3, _⟩ := id w.dk
  have i : Imm [tb] H H' := imm1 k e3 (ins_nf (by simpa using n4.symm))
  have i0 : Imm [] H H' := imm1 k e3 (ins_nf (by simp))
  exact ⟨w.dr.keep k (by simpa using n1) (by simpa using n2), w.mo.imm i0, w.ta.imm i (by simp), dk, w.rw_.imm i0 fun o e => k _ _ e (by simpa using n3)⟩
/-- the rows are other ones -/
theorem Wp.rows {hs' : Hist} (w : Wp K H d s md p r tb cs m hs hs' fl) (k : Keep [r] H H') (rw_ : RowsAt K H' r hs') (n1 : d ≠ r) (n2 : s ≠ r) (n3 : p ≠ r) (n4 : tb ≠ r) (ok : m.Ok) (ho : HOk m hs') (hf : fl ≤ hs'.length) : Wd K H' d s md p r tb cs m hs' fl := by
  obtain ⟨q0, t0, rv, e4, _⟩ := id w.rw_
  have i : Imm [tb] H H' := imm1 k e4 (lst_nf (by simpa using n4.symm))
  have i0 : Imm [] H H' := imm1 k e4 (lst_nf (by simp))
  exact ⟨w.dr.keep k (by simpa using n1) (by simpa using n2), w.mo.imm i0, w.ta.imm i (by simp), w.dk.imm i0 fun o e => k _ _ e (by simpa using n3), rw_, ok, ho, n1, n2, hf⟩
theorem rows_list (h : RowsAt K H r hs) : ∃ xs, H r = some (.lst xs) ∧ xs.length = hs.length + 1 := by
  obtain ⟨q0, t0, rv, e1, e2, e3, e4⟩ := h
  exact ⟨_, e1, by rw [List.length_cons, List.length_map, paired_len e4]⟩
/-- one row more -/
theorem rows_snoc {n : Addr} {q : Ed × List Nat} {xs : List V} (h : RowsAt K H r hs) (hx : H r = some (.lst xs)) (hn : NoteR K H n q) : RowsAt K (upd H r (.lst (xs ++ [.ref n]))) r (hs ++ [q]) := by
  obtain ⟨q0, t0, rv, e1, e2, e3, e4⟩ := h
  rw [e1] at hx
  injection hx with hx
  injection hx with hx
  subst hx
  have i0 : Imm [] H (upd H r (.lst ((V.ref q0 :: rv.map V.ref) ++ [.ref n]))) := imm1 (keep_upd Keep.refl) e1 (lst_nf (by simp))
  refine ⟨q0, t0, rv ++ [n], ?_, i0.t e2, i0.t e3, paired_app (paired_imp e4 fun _ _ z => z.imm i0) (.cons (hn.imm i0) .nil)⟩
  rw [List.map_append]
  exact upd_same
theorem catA {a b : Addr} {xs ys : List V} {Q : VK} (ha : SqT K H a xs) (hb : SqT K H b ys) (hl : xs.length + ys.length ≤ sizeLine) (q : ∀ p H', Same H H' → SqT K H' p (xs ++ ys) → Q (.ref p) H') : rCatA K (.ref a) (.ref b) H Q := by
  refine ⟨a, b, xs, ys, rfl, rfl, ha, hb, hl, fun e => ?_, fun _ e => ?_, fun _ _ p hp => q p _ (same_new hp) (.inl (.inl upd_same))⟩
  · subst e
    exact q b H (Same.refl _) hb
  · subst e
    refine q a H (Same.refl _) ?_
    rw [List.append_nil]
    exact ha
end
section
variable {P : Program} {w : World} {K : PySem.W.Frag} {mg : Str → Option Value} {base : Heap}
theorem sim_all {xs : List V} (h : ∀ x ∈ xs, simV x) {i : Nat} {x : V} (e : xs[i]? = some x) : simV x := h x (List.mem_of_getElem? e)
theorem sim_i (i : Int) : simV (.int i) := .inr (.inr ⟨i, rfl⟩)
theorem sim_b (b : Bool) : simV (.bl b) := .inr (.inl ⟨b, rfl⟩)
def tNewP (K : PySem.W.Frag) : TE := tOp (rCatA K) (tOp (rCatA K) (tSl (rSlA K) (tVar 4) tNoPart (tPart (tVar 6))) (tTup (tCons (tVar 7) tNil))) (tSl (rSlA K) (tVar 4) (tPart (tVar 6)) tNoPart)
theorem newP {σ : L2.St} {H : Hp} {a : Addr} {t : List Nat} {i s : Nat} {Q : VK} (h4 : σ[4]? = some (some (.ref a))) (h6 : σ[6]? = some (some (iv i))) (h7 : σ[7]? = some (some (iv s))) (ht : TI K H a t) (hi : i ≤ t.length) (hl : t.length ≤ 1000)
    (q : ∀ u H', Same H H' → TI K H' u (putT t i s) → Q (.ref u) H') : tNewP K σ H Q := by
  refine ⟨_, h4, _, h6, (i : Int), rfl, slA_pre ht (by rw [List.length_map]; exact hi) fun u1 H1 s1 t1 => ⟨_, h7, line_of (by simp), fun p2 hp2 => ?_⟩⟩
  have s2 := same_new (o := .tup [iv s]) hp2
  have t2 : SqT K (upd H1 p2 (.tup [iv s])) p2 [iv s] := new_t
  refine catA (same_t s2 t1) t2 (line_of (by simp only [List.length_take, List.length_map, List.length_cons, List.length_nil]; omega)) fun u2 H3 s3 t3 => ⟨_, h4, _, h6, (i : Int), rfl, ?_⟩
  dsimp only [tNoPart]
  have s13 := s1.trans (s2.trans s3)
  refine slA_suf (same_t s13 ht) (by rw [List.length_map]; exact hi) fun u4 H4 s4 t4 => ?_
  refine catA (same_t s4 t3) t4 (line_of (by simp only [List.length_append, List.length_take, List.length_drop, List.length_map, List.length_cons, List.length_nil]; omega)) fun u5 H5 s5 t5 => q u5 H5 (s13.trans (s4.trans s5)) ?_
  simpa [TI, putT, List.map_take, List.map_drop] using t5
def tNewK (K : PySem.W.Frag) : TE := tOp (rCatA K) (tSl (rSlA K) (tVar 4) tNoPart (tPart (tVar 5))) (tSl (rSlA K) (tVar 4) (tPart (tOp (rI0 fun i j => .int (i + j)) (tVar 5) (tC (.int 1)))) tNoPart)
theorem newK {σ : L2.St} {H : Hp} {a : Addr} {t : List Nat} {i : Nat} {Q : VK} (h4 : σ[4]? = some (some (.ref a))) (h5 : σ[5]? = some (some (iv i))) (ht : TI K H a t) (hi : i < t.length) (hl : t.length ≤ 1000)
    (q : ∀ u H', Same H H' → TI K H' u (takeT t i) → Q (.ref u) H') : tNewK K σ H Q := by
  refine ⟨_, h4, _, h5, (i : Int), rfl, slA_pre ht (by rw [List.length_map]; omega) fun u1 H1 s1 t1 => ⟨_, h4, _, h5, _, (1 : Int), rfl, rfl, _, rfl, ?_⟩⟩
  dsimp only [tNoPart]
  refine slA_sufI (n := i + 1) rfl (same_t s1 ht) (by rw [List.length_map]; omega) fun u4 H4 s4 t4 => ?_
  refine catA (same_t s4 t1) t4 (line_of (by simp only [List.length_take, List.length_drop, List.length_map]; omega)) fun u5 H5 s5 t5 => q u5 H5 (s1.trans (s4.trans s5)) ?_
  simpa [TI, takeT, List.map_take, List.map_drop] using t5
theorem sim_rep {k : Nat} {v : V} (h : simV v) : ∀ x ∈ (List.replicate k [v]).flatten, simV x := fun x hx => by
  obtain ⟨l, hl, hx⟩ := List.mem_flatten.mp hx
  rw [(List.mem_replicate.mp hl).2, List.mem_singleton] at hx
  rw [hx]
  exact h
theorem rep_len {k : Nat} {v : V} : ((List.replicate k [v]).flatten).length = k := by
  induction k with
  | zero => rfl
  | succ k ih => rw [List.replicate_succ, List.flatten_cons, List.length_append, ih, List.length_singleton]; omega
theorem isNum_lt {x : V} {k : Int} {n : Nat} (h : isNum x 0 k = false) (e : x = iv n) (hn : (n : Int) ≤ k) : False := by
  rw [e, isNum_nat hn] at h
  cases h
/-! ### an edit that is right -/
def spPR (K : PySem.W.Frag) : Sp := fun vs H Q _ => ∃ (d s md p r tb : Addr) (cs : List Int) (m : Mo) (hs : Hist) (fl : Nat), vs = [.ref d, .ref md, .ref p, .ref r] ∧ Wd K H d s md p r tb cs m hs fl ∧ hs.length ≤ 150 ∧
  ∀ H' hs', Keep [d, p, r] H H' → Wd K H' d s md p r tb cs m hs' fl → hs'.length ≤ hs.length + 1 → Q (.bl true) H'
theorem k_pr (T : Tx K mg) : Cal P w K mg base 14 "_law_put_right" (spPR K) [] := by
  obtain ⟨fd, F⟩ := T.F_L_put_right
  refine calOf F (bL_put_right F) T.g__law_put_right scL_put_right (fun vs H Q E h => ?_) (fun cdv A outer s H vs Q E hr h => ?_)
  · obtain ⟨d, sa, md, p, r, tb, cs, m, hs, fl, rfl, _⟩ := h
    rfl
  · obtain ⟨d, sa, md, p, r, tb, cs, m, hs, fl, rfl, W0, hz, q⟩ := h
    refine ⟨_, pss_cons (ps_par (i := 4) (j := 5) (by rfl) scL_put_right.nd rfl rfl (by decide) rfl rfl (pa_cons (pe_ix ix_tup (pe_ix ix_list (pv 3) (pe_un un_neg pe_int) (fun _ _ => rfl)) pe_int (fun _ _ => rfl))
          (pa_cons (pe_callB call_len_seq rfl T.n_len PySem.boot_len (pa_cons (pe_ix ix_tup (pv 1) pe_int (fun _ _ => rfl)) pa_nil)) pa_nil)) (by rfl))
      (pss_cons (ps_set (i := 6) scL_put_right.nd rfl (Or.inl rfl) (pe_c (k_pick T) hr (by decide) rfl (pa_cons (pv 0) (pa_cons (pe_op op_cat (pe_lst (pa_cons pe_int (pa_cons (pe_callB call_len_seq rfl T.n_len PySem.boot_len (pa_cons (pv 4) pa_nil))
            (pa_cons (pe_op op_add (pe_callB call_len_seq rfl T.n_len PySem.boot_len (pa_cons (pv 4) pa_nil)) pe_int) (pa_cons (pe_un un_neg pe_int) (pa_cons pe_non (pa_cons pe_bl pa_nil)))))))
          (pe_op op_rep (pe_lst (pa_cons (pe_c (k_next T) hr (by decide) rfl (pa_cons (pv 0) (pa_cons (pe_op op_add (pe_callB call_len_seq rfl T.n_len PySem.boot_len (pa_cons (pv 4) pa_nil)) pe_int) pa_nil))) pa_nil)) pe_int)) pa_nil))))
      (pss_cons (ps_set (i := 7) scL_put_right.nd rfl (Or.inl rfl) (pe_c (k_pick T) hr (by decide) rfl (pa_cons (pv 0) (pa_cons (pe_op op_cat (pe_lst (pa_cons (pv 5) (pa_cons (pe_un un_neg pe_int) (pa_cons pe_bl (pa_cons pe_non pa_nil)))))
          (pe_op op_rep (pe_lst (pa_cons (pe_c (k_next T) hr (by decide) rfl (pa_cons (pv 0) (pa_cons (pv 5) pa_nil))) pa_nil)) pe_int)) pa_nil))))
      (pss_cons (ps_set (i := 8) scL_put_right.nd rfl (Or.inl rfl) pe_str)
      (pss_cons (ps_if (pt_not (pt_val (pe_c (k_place T) hr (by decide) rfl (pa_cons (pv 6) (pa_cons (pe_callB call_len_seq rfl T.n_len PySem.boot_len (pa_cons (pv 4) pa_nil)) pa_nil)))))
          (pss_one (ps_set (i := 8) scL_put_right.nd rfl (Or.inl rfl) pe_str))
          (pss_one (ps_if (pt_not (pt_val (pe_c (k_place T) hr (by decide) rfl (pa_cons (pv 7) (pa_cons (pe_op op_sub (pv 5) pe_int) pa_nil)))))
            (pss_one (ps_set (i := 8) scL_put_right.nd rfl (Or.inl rfl) pe_str))
            (pss_one (ps_if (pt_not (pt_val (pe_c (k_ltame T) hr (by decide) rfl (pa_cons (pv 1) (pa_cons (pe_op op_catA (pe_op op_catA (pe_slice sl_tupA (pv 4) po_none (po_some (pv 6))) (pe_tup (pa_cons (pv 7) pa_nil))) (pe_slice sl_tupA (pv 4) (po_some (pv 6)) po_none)) pa_nil)))))
              (pss_one (ps_set (i := 8) scL_put_right.nd rfl (Or.inl rfl) pe_str)) pss_nil)))))
      (pss_cons (ps_try_many (tb := fun W => tDrop (tMethX (He.ga K "Desk") "put" (spPut K) (WE W) (tVar 2) (tCons (tVar 6) (tCons (tVar 7) tNil)))) rfl rfl takes_none5 (fun W pn xe tk _ => pss_one (ps_expr (pe_mtX (k_put T) hr (by decide) tk (pv 2) (pa_cons (pv 6) (pa_cons (pv 7) pa_nil)))))
          (.cons (ts := fun _ _ _ => tRet (tOp rEq (tVar 8) (tC (.str "place")))) ⟨rfl, by decide, .inl T.g_BadPlace⟩ (fun _ _ _ _ _ _ _ => pss_one (ps_ret (pe_cmpR op_eq (pv 8) pe_str (nomark _))))
          (.cons (ts := fun _ _ _ => tRet (tOp rEq (tVar 8) (tC (.str "sign")))) ⟨rfl, by decide, .inl T.g_BadSign⟩ (fun _ _ _ _ _ _ _ => pss_one (ps_ret (pe_cmpR op_eq (pv 8) pe_str (nomark _))))
          (.cons (ts := fun _ _ _ => tRet (tOp rEq (tVar 8) (tC (.str "edit")))) ⟨rfl, by decide, .inl T.g_BadEdit⟩ (fun _ _ _ _ _ _ _ => pss_one (ps_ret (pe_cmpR op_eq (pv 8) pe_str (nomark _)))) .nil))))
      (pss_cons (ps_if (pt_cmpR op_ne (pv 8) pe_str (nomark _)) (pss_one ps_never) pss_nil)
      (pss_cons (ps_expr (pe_bm PySem.F.plainAttrs_list PySem.F.slot_list_append PySem.F.type_list_append mt_append (pv 3) (pa_cons (pe_tup (pa_cons (pe_tup (pa_cons pe_str (pa_cons (pv 6) (pa_cons (pv 7) pa_nil))))
          (pa_cons (pe_op op_catA (pe_op op_catA (pe_slice sl_tupA (pv 4) po_none (po_some (pv 6))) (pe_tup (pa_cons (pv 7) pa_nil))) (pe_slice sl_tupA (pv 4) (po_some (pv 6)) po_none)) pa_nil))) pa_nil)))
      (pss_one (ps_ret pe_bl))))))))), ?_⟩
    obtain ⟨xs, last, le, lt, l1, l2, l3⟩ := rows_last W0.rw_
    obtain ⟨c, rr, sh, m1, m2, m3, m4⟩ := W0.mo.ex
    obtain ⟨c1, c2, c3⟩ := hok_cur W0.ho
    obtain ⟨n1, n2, n3, n4, n5, n6⟩ := W0.np
    refine ⟨_, rfl, (1 : Int), rfl, r, _, (-1 : Int), _, rfl, rfl, sqL l1, atI_last _ (V.ref last), last, _, 1, _, rfl, rfl, l2, rfl, ?_⟩
    refine ⟨_, rfl, md, _, 0, _, rfl, rfl, m1, rfl, c, _, rfl, .inr m2, _, _, rfl, ?_⟩
    rw [List.length_map]
    -- at
    refine ⟨_, rfl, _, rfl, lt, _, rfl, .inr l3, _, rfl, lt, _, rfl, .inr l3, _, (1 : Int), rfl, rfl, (1 : Int), rfl, line_of (by simp), fun p1 hp1 => ?_⟩
    have s1 := same_new (o := .lst [.int 0, .int ((List.map iv (cur hs)).length : Nat), .int (((List.map iv (cur hs)).length : Nat) + 1), .int (-1), .non, .bl true]) hp1
    have hp1' : upd H p1 (.lst [.int 0, .int ((List.map iv (cur hs)).length : Nat), .int (((List.map iv (cur hs)).length : Nat) + 1), .int (-1), .non, .bl true]) p1 = some (.lst [.int 0, .int ((List.map iv (cur hs)).length : Nat), .int (((List.map iv (cur hs)).length : Nat) + 1), .int (-1), .non, .bl true]) := upd_same
    have W1 := W0.same s1
    have l3 := same_t s1 l3
    have k1 : Keep [d] H _ := Keep.of s1
    show tOp _ _ _ _ (upd H p1 (.lst [.int 0, .int ((List.map iv (cur hs)).length : Nat), .int (((List.map iv (cur hs)).length : Nat) + 1), .int (-1), .non, .bl true])) _
    generalize upd H p1 (.lst [.int 0, .int ((List.map iv (cur hs)).length : Nat), .int (((List.map iv (cur hs)).length : Nat) + 1), .int (-1), .non, .bl true]) = H1 at W1 l3 k1 hp1'
    have np1 : p1 ≠ d := fun z => by
      obtain ⟨nn, z'⟩ := W1.dr.ex
      rw [← z, hp1'] at z'
      injection z' with z'
      injection z' with z'
      cases z'
    refine ⟨_, rfl, _, rfl, lt, _, rfl, .inr l3, _, (1 : Int), rfl, rfl, d, sa, cs, (cur hs).length + 1, ?_, W1.dr, by omega, fun r1 H2 hr1 k2 d2 => ?_⟩
    · show [V.ref d, V.int (((List.map iv (cur hs)).length : Nat) + 1)] = _
      rw [List.length_map]
      rfl
    have W2 := W1.draw k2 d2
    have l3 : TI K H2 lt (cur hs) := (imm_d W1.dr k2 (by simp : d ∉ [])).t l3
    have hp2' := k2 _ _ hp1' (by simpa using np1)
    have k2 := k1.trans k2
    refine ⟨line_of (by simp), fun p2 hp2 => ⟨p2, 6, _, rfl, rfl, upd_same, by decide, by decide, line_of (by simp), fun p3 hp3 => ?_⟩⟩
    have s3 := (same_new (o := .lst [iv r1]) hp2).trans (same_new (o := .lst (List.replicate (6 : Int).toNat [iv r1]).flatten) hp3)
    refine ⟨p1, p3, _, _, rfl, rfl, s3 _ _ hp2', upd_same, line_of (by rw [rep_len]; simp), fun p4 hp4 => ?_⟩
    have s4 := s3.trans (same_new hp4 (o := .lst ([.int 0, .int ((List.map iv (cur hs)).length : Nat), .int (((List.map iv (cur hs)).length : Nat) + 1), .int (-1), .non, .bl true] ++ (List.replicate (6 : Int).toNat [iv r1]).flatten)))
    have W4 := W2.same s4
    have np4 : p4 ≠ d := fun z => by
      obtain ⟨nn, z'⟩ := (W2.same s3).dr.ex
      rw [← z, hp4] at z'
      cases z'
    refine ⟨d, sa, p4, cs, _, rfl, W4.dr, upd_same, np4, (by simp), fun i5 x H5 ex k5 d5 => ?_⟩
    have sx : simV x := sim_all (fun z hz => by
      rcases List.mem_append.mp hz with hz | hz
      · simp only [List.mem_cons, List.not_mem_nil, or_false] at hz
        rcases hz with rfl | rfl | rfl | rfl | rfl | rfl
        · exact sim_i _
        · exact sim_i _
        · exact sim_i _
        · exact sim_i _
        · exact .inl rfl
        · exact sim_b _
      · exact sim_rep (sim_i _) z hz) ex
    have W5 := W4.draw k5 d5
    have l3 : TI K H5 lt (cur hs) := (imm_d W4.dr k5 (by simp : d ∉ [])).t (same_t s4 l3)
    have k5 := (k2.trans (Keep.of s4)).trans k5
    -- sign
    refine ⟨_, rfl, _, rfl, (1 : Int), rfl, line_of (by simp), fun p6 hp6 => ?_⟩
    have s6 := same_new (o := .lst [iv m.n, .int (-1), .bl false, .non]) hp6
    have hp6' : upd H5 p6 (.lst [iv m.n, .int (-1), .bl false, .non]) p6 = some (.lst [iv m.n, .int (-1), .bl false, .non]) := upd_same
    have W6 := W5.same s6
    have l3 := same_t s6 l3
    have k6 : Keep [d] H _ := k5.trans (Keep.of s6)
    show tOp _ _ _ _ (upd H5 p6 (.lst [iv m.n, .int (-1), .bl false, .non])) _
    generalize upd H5 p6 (.lst [iv m.n, .int (-1), .bl false, .non]) = H6 at W6 l3 k6 hp6'
    have np6 : p6 ≠ d := fun z => by
      obtain ⟨nn, z'⟩ := W6.dr.ex
      rw [← z, hp6'] at z'
      injection z' with z'
      injection z' with z'
      injection z' with z' _
      cases z'
    refine ⟨_, rfl, _, rfl, d, sa, cs, m.n, rfl, W6.dr, W0.ok.n1, fun r7 H7 hr7 k7 d7 => ?_⟩
    have W7 := W6.draw k7 d7
    have l3 : TI K H7 lt (cur hs) := (imm_d W6.dr k7 (by simp : d ∉ [])).t l3
    have hp7' := k7 _ _ hp6' (by simpa using np6)
    have k7 := k6.trans k7
    refine ⟨line_of (by simp), fun p8 hp8 => ⟨p8, 8, _, rfl, rfl, upd_same, by decide, by decide, line_of (by simp), fun p9 hp9 => ?_⟩⟩
    have s9 := (same_new (o := .lst [iv r7]) hp8).trans (same_new (o := .lst (List.replicate (8 : Int).toNat [iv r7]).flatten) hp9)
    refine ⟨p6, p9, _, _, rfl, rfl, s9 _ _ hp7', upd_same, line_of (by rw [rep_len]; simp), fun pA hpA => ?_⟩
    have sA := s9.trans (same_new hpA (o := .lst ([iv m.n, .int (-1), .bl false, .non] ++ (List.replicate (8 : Int).toNat [iv r7]).flatten)))
    have WA := W7.same sA
    have npA : pA ≠ d := fun z => by
      obtain ⟨nn, z'⟩ := (W7.same s9).dr.ex
      rw [← z, hpA] at z'
      cases z'
    refine ⟨d, sa, pA, cs, _, rfl, WA.dr, upd_same, npA, (by simp), fun iB y HB ey kB dB => ?_⟩
    have sy : simV y := sim_all (fun z hz => by
      rcases List.mem_append.mp hz with hz | hz
      · simp only [List.mem_cons, List.not_mem_nil, or_false] at hz
        rcases hz with rfl | rfl | rfl | rfl
        · exact sim_i _
        · exact sim_i _
        · exact sim_b _
        · exact .inl rfl
      · exact sim_rep (sim_i _) z hz) ey
    have WB := WA.draw kB dB
    have l3 : TI K HB lt (cur hs) := (imm_d WA.dr kB (by simp : d ∉ [])).t (same_t sA l3)
    have kB := (k7.trans (Keep.of sA)).trans kB
    have kd : Keep [d, p, r] H HB := kB.mono (by simp)
    obtain ⟨dx, b, kk, hpd, _⟩ := id WB.dk
    have hnn : ∀ {z : Str}, (z == ("base" : Str)) = false → (z == ("kept" : Str)) = false → (dF b kk).lookup z = none := fun a b => dF_no _ _ a b
    refine ⟨_, rfl, _, rfl, lt, _, rfl, .inr l3, x, _, rfl, sx, _, rfl, ?_⟩
    rw [List.length_map]
    cases e1 : isNum x 0 ((cur hs).length : Int) with
    | false =>
      refine iteT ?_
      refine ⟨_, rfl, p, dx, _, rfl, hpd, hnn (by decide +kernel) (by decide +kernel), _, rfl, _, rfl, p, x, y, tb, m, hs, fl, rfl, WB.dk, WB.ta, WB.ok, WB.ho, by omega, sx, sy, fun _ => ?_, fun z => ?_, fun i sg ex _ hi _ => ?_⟩
      · refine ⟨true, T.e_BadPlace_BadPlace, fun _ a ha => ⟨_, rfl, rfl, ?_⟩, fun z => by cases z⟩
        rw [decide_eq_true rfl]
        exact q HB hs kd WB (by omega)
      · rw [e1] at z; cases z
      · exact (isNum_lt e1 ex (by omega)).elim
    | true =>
      refine iteF ?_
      refine ⟨_, rfl, _, rfl, _, (1 : Int), rfl, rfl, y, _, rfl, sy, _, rfl, ?_⟩
      show (if (!isNum y 0 ((m.n : Int) - 1)) = true then _ else _)
      cases e2 : isNum y 0 ((m.n : Int) - 1) with
      | false =>
        refine iteT ?_
        refine ⟨_, rfl, p, dx, _, rfl, hpd, hnn (by decide +kernel) (by decide +kernel), _, rfl, _, rfl, p, x, y, tb, m, hs, fl, rfl, WB.dk, WB.ta, WB.ok, WB.ho, by omega, sx, sy, fun z => ?_, fun _ _ => ?_, fun i sg _ ey _ hs' => ?_⟩
        · rw [e1] at z; cases z
        · refine ⟨false, T.e_BadSign_BadPlace, (fun z => by cases z), fun _ => ⟨true, T.e_BadSign_BadSign, fun _ a ha => ⟨_, rfl, rfl, ?_⟩, fun z => by cases z⟩⟩
          rw [decide_eq_true rfl]
          exact q HB hs kd WB (by omega)
        · exact (isNum_lt e2 ey (by omega)).elim
      | true =>
        refine iteF ?_
        obtain ⟨i, rfl, hi⟩ := isNum_inv e1
        obtain ⟨sg, rfl, hs'⟩ := isNum_inv e2
        have hi : i ≤ (cur hs).length := by omega
        have hsg : sg < m.n := by omega
        refine ⟨_, rfl, newP rfl rfl rfl l3 hi (by omega) fun u HC sC tC => ⟨md, m, u, _, rfl, WB.mo.same sC, WB.ok, tC, putT_vt c1 hsg, fun HD sD => ⟨_, rfl, ?_⟩⟩⟩
        have WD := WB.same (sC.trans sD)
        have l3 := same_t (sC.trans sD) l3
        have kD : Keep [d, p, r] H HD := kd.trans (Keep.of (sC.trans sD))
        have hpd := (sC.trans sD) _ _ hpd
        cases et : m.tame (putT (cur hs) i sg) with
        | false =>
          refine iteT ?_
          refine ⟨_, rfl, p, dx, _, rfl, hpd, hnn (by decide +kernel) (by decide +kernel), _, rfl, _, rfl, p, iv i, iv sg, tb, m, hs, fl, rfl, WD.dk, WD.ta, WD.ok, WD.ho, by omega, sx, sy, fun z => ?_, fun _ z => ?_, fun i' sg' ex' ey' hi' hs'' => ⟨fun _ HE sE => ?_, fun z => ?_⟩⟩
          · rw [e1] at z; cases z
          · rw [e2] at z; cases z
          · refine ⟨false, T.e_BadEdit_BadPlace, (fun z => by cases z), fun _ => ⟨false, T.e_BadEdit_BadSign, (fun z => by cases z), fun _ => ⟨true, T.e_BadEdit_BadEdit, fun _ a ha => ⟨_, rfl, rfl, ?_⟩, fun z => by cases z⟩⟩⟩
            rw [decide_eq_true rfl]
            exact q HE hs (kD.trans (Keep.of sE)) (WD.same sE) (by omega)
          · have e3 : i' = i := by injection ex' with z; omega
            have e4 : sg' = sg := by injection ey' with z; omega
            rw [e3, e4, et] at z
            cases z
        | true =>
          refine iteF ?_
          refine ⟨_, rfl, p, dx, _, rfl, hpd, hnn (by decide +kernel) (by decide +kernel), _, rfl, _, rfl, p, iv i, iv sg, tb, m, hs, fl, rfl, WD.dk, WD.ta, WD.ok, WD.ho, by omega, sx, sy, fun z => ?_, fun _ z => ?_, fun i' sg' ex' ey' hi' hs'' => ?_⟩
          · rw [e1] at z; cases z
          · rw [e2] at z; cases z
          · have e3 : i' = i := by injection ex' with z; omega
            have e4 : sg' = sg := by injection ey' with z; omega
            rw [e3, e4]
            refine ⟨(fun z => by rw [et] at z; cases z), fun _ HE kE dE => ?_⟩
            have WE := WD.desk kE dE
            have l3 : TI K HE lt (cur hs) := (imm1 kE hpd (ins_nf (by simp : p ∉ []))).t l3
            have kE' : Keep [d, p, r] H HE := kD.trans (kE.mono (by simp))
            refine ⟨_, rfl, rfl, _, rfl, ?_⟩
            rw [decide_eq_true rfl]
            refine iteF ?_
            obtain ⟨xr, hxr, hxl⟩ := rows_list WE.rw_
            refine ⟨_, rfl, .inl ⟨rfl, _, sqL hxr⟩, _, rfl, _, rfl, line_of (by simp), fun q1 hq1 => ?_⟩
            have sF := same_new (o := .tup [.str "put", iv i, iv sg]) hq1
            have tq1 : EdAt K (upd HE q1 (.tup [.str "put", iv i, iv sg])) q1 ⟨true, i, sg⟩ := new_t
            refine newP rfl rfl rfl (same_t sF l3) hi (by omega) fun u2 HG sG tG => ⟨line_of (by simp), fun q2 hq2 => ?_⟩
            have sH := same_new (o := .tup [.ref q1, .ref u2]) hq2
            have sEH := sF.trans (sG.trans sH)
            have WH := WE.same sEH
            have hxr' := sEH _ _ hxr
            have nt : NoteR K (upd HG q2 (.tup [.ref q1, .ref u2])) q2 (⟨true, i, sg⟩, putT (cur hs) i sg) := ⟨q1, u2, new_t, same_t (sG.trans sH) tq1, same_t sH tG⟩
            generalize upd HG q2 (.tup [.ref q1, .ref u2]) = HH at sEH WH hxr' nt ⊢
            refine ⟨r, _, _, rfl, rfl, hxr', line_lt (by omega), ?_⟩
            refine q _ (hs ++ [(⟨true, i, sg⟩, putT (cur hs) i sg)]) ((kE'.trans (Keep.of sEH)).trans ((keep_upd Keep.refl : Keep [r] HH _).mono (by simp))) (WH.rows (keep_upd Keep.refl) (rows_snoc WH.rw_ hxr' nt) W0.ndr W0.nsr n3.symm n6 W0.ok
              (hok_snoc W0.ho (putT_vt c1 hsg) et (by show (putT _ _ _).length ≤ _; rw [putT_len hi]; omega)) (by have := W0.fl_; simp; omega)) (by simp)
end
end Des
end T_D16
section T_D17
set_option linter.all false
set_option maxRecDepth 100000
set_option maxHeartbeats 600000
namespace Des
open PySem PySem.Spec PyProof.Rows L2
open C8 (Cal Met Mak pe_c pe_mk pe_mt pe_mt0)
open StX (pa_star)
section
variable {P : Program} {w : World} {K : PySem.W.Frag} {mg : Str → Option Value} {base : Heap}
theorem dec_str {a b : Str} {k : Bool} (h : decide (a = b) = k) : decide (V.str a = V.str b) = k := by
  rw [← h]
  by_cases e : a = b
  · subst e; simp
  · rw [decide_eq_false e, decide_eq_false (fun z => e (by injection z))]
/-! ### a sign taken out that is right -/
theorem k_tr (T : Tx K mg) : Cal P w K mg base 14 "_law_take_right" (spPR K) [] := by
  obtain ⟨fd, F⟩ := T.F_L_take_right
  refine calOf F (bL_take_right F) T.g__law_take_right scL_take_right (fun vs H Q E h => ?_) (fun cdv A outer s H vs Q E hr h => ?_)
  · obtain ⟨d, sa, md, p, r, tb, cs, m, hs, fl, rfl, _⟩ := h
    rfl
  · obtain ⟨d, sa, md, p, r, tb, cs, m, hs, fl, rfl, W0, hz, q⟩ := h
    refine ⟨_, pss_cons (ps_set (i := 4) scL_take_right.nd rfl (Or.inl rfl) (pe_ix ix_tup (pe_ix ix_list (pv 3) (pe_un un_neg pe_int) (fun _ _ => rfl)) pe_int (fun _ _ => rfl)))
      (pss_cons (ps_set (i := 5) scL_take_right.nd rfl (Or.inl rfl) (pe_c (k_pick T) hr (by decide) rfl (pa_cons (pv 0) (pa_cons (pe_op op_cat (pe_lst (pa_cons (pe_callB call_len_seq rfl T.n_len PySem.boot_len (pa_cons (pv 4) pa_nil)) (pa_cons (pe_un un_neg pe_int) (pa_cons pe_non (pa_cons pe_bl pa_nil)))))
          (pe_op op_rep (pe_lst (pa_cons (pe_c (k_next T) hr (by decide) rfl (pa_cons (pv 0) (pa_cons (pe_op op_add (pe_callB call_len_seq rfl T.n_len PySem.boot_len (pa_cons (pv 4) pa_nil)) pe_int) pa_nil))) pa_nil)) pe_int)) pa_nil))))
      (pss_cons (ps_set (i := 6) scL_take_right.nd rfl (Or.inl rfl) (pe_ifExp (pt_val (pe_c (k_place T) hr (by decide) rfl (pa_cons (pv 5) (pa_cons (pe_op op_sub (pe_callB call_len_seq rfl T.n_len PySem.boot_len (pa_cons (pv 4) pa_nil)) pe_int) pa_nil)))) pe_str pe_str))
      (pss_cons (ps_if (PW.pt (pw_and (pt_cmpR op_eq (pv 6) pe_str (nomark _)) (pw_and1 (pt_not (pt_val (pe_c (k_ltame T) hr (by decide) rfl (pa_cons (pv 1) (pa_cons (pe_op op_catA (pe_slice sl_tupA (pv 4) po_none (po_some (pv 5))) (pe_slice sl_tupA (pv 4) (po_some (pe_op op_add (pv 5) pe_int)) po_none)) pa_nil))))))))
          (pss_one (ps_set (i := 6) scL_take_right.nd rfl (Or.inl rfl) pe_str)) pss_nil)
      (pss_cons (ps_try_many (tb := fun W => tAsg (tMethX (He.ga K "Desk") "take" (spTake K) (WE W) (tVar 2) (tCons (tVar 5) tNil)) (gName 7)) rfl rfl takes_none5 (fun W pn xe tk _ => pss_one (ps_set (i := 7) scL_take_right.nd rfl (Or.inl rfl) (pe_mtX (k_take T) hr (by decide) tk (pv 2) (pa_cons (pv 5) pa_nil))))
          (.cons (ts := fun _ _ _ => tRet (tOp rEq (tVar 6) (tC (.str "place")))) ⟨rfl, by decide, .inl T.g_BadPlace⟩ (fun _ _ _ _ _ _ _ => pss_one (ps_ret (pe_cmpR op_eq (pv 6) pe_str (nomark _))))
          (.cons (ts := fun _ _ _ => tRet (tOp rEq (tVar 6) (tC (.str "edit")))) ⟨rfl, by decide, .inl T.g_BadEdit⟩ (fun _ _ _ _ _ _ _ => pss_one (ps_ret (pe_cmpR op_eq (pv 6) pe_str (nomark _)))) .nil)))
      (pss_cons (ps_if (pt_cmpR op_ne (pv 6) pe_str (nomark _)) (pss_one ps_never) pss_nil)
      (pss_cons (ps_expr (pe_bm PySem.F.plainAttrs_list PySem.F.slot_list_append PySem.F.type_list_append mt_append (pv 3) (pa_cons (pe_tup (pa_cons (pe_tup (pa_cons pe_str (pa_cons (pv 5) (pa_cons (pe_ix ix_tup (pv 4) (pv 5) (fun _ _ => rfl)) pa_nil))))
          (pa_cons (pe_op op_catA (pe_slice sl_tupA (pv 4) po_none (po_some (pv 5))) (pe_slice sl_tupA (pv 4) (po_some (pe_op op_add (pv 5) pe_int)) po_none)) pa_nil))) pa_nil)))
      (pss_one (ps_ret (pe_cmpR op_eq (pv 7) (pe_ix ix_tup (pv 4) (pv 5) (fun _ _ => rfl)) (nomark _)))))))))), ?_⟩
    obtain ⟨xs, last, le, lt, l1, l2, l3⟩ := rows_last W0.rw_
    obtain ⟨c1, c2, c3⟩ := hok_cur W0.ho
    obtain ⟨n1, n2, n3, n4, n5, n6⟩ := W0.np
    refine ⟨_, rfl, (1 : Int), rfl, r, _, (-1 : Int), _, rfl, rfl, sqL l1, atI_last _ (V.ref last), last, _, 1, _, rfl, rfl, l2, rfl, ?_⟩
    -- at
    refine ⟨_, rfl, _, rfl, lt, _, rfl, .inr l3, (1 : Int), rfl, line_of (by simp), fun p1 hp1 => ?_⟩
    have s1 := same_new (o := .lst [.int ((List.map iv (cur hs)).length : Nat), .int (-1), .non, .bl false]) hp1
    have hp1' : upd H p1 (.lst [.int ((List.map iv (cur hs)).length : Nat), .int (-1), .non, .bl false]) p1 = some (.lst [.int ((List.map iv (cur hs)).length : Nat), .int (-1), .non, .bl false]) := upd_same
    have W1 := W0.same s1
    have l3 := same_t s1 l3
    have k1 : Keep [d] H _ := Keep.of s1
    show tOp _ _ _ _ (upd H p1 (.lst [.int ((List.map iv (cur hs)).length : Nat), .int (-1), .non, .bl false])) _
    generalize upd H p1 (.lst [.int ((List.map iv (cur hs)).length : Nat), .int (-1), .non, .bl false]) = H1 at W1 l3 k1 hp1'
    have np1 : p1 ≠ d := fun z => by
      obtain ⟨nn, z'⟩ := W1.dr.ex
      rw [← z, hp1'] at z'
      injection z' with z'
      injection z' with z'
      cases z'
    refine ⟨_, rfl, _, rfl, lt, _, rfl, .inr l3, _, (1 : Int), rfl, rfl, d, sa, cs, (cur hs).length + 1, ?_, W1.dr, by omega, fun r1 H2 hr1 k2 d2 => ?_⟩
    · show [V.ref d, V.int (((List.map iv (cur hs)).length : Nat) + 1)] = _
      rw [List.length_map]
      rfl
    have W2 := W1.draw k2 d2
    have l3 : TI K H2 lt (cur hs) := (imm_d W1.dr k2 (by simp : d ∉ [])).t l3
    have hp2' := k2 _ _ hp1' (by simpa using np1)
    have k2 := k1.trans k2
    refine ⟨line_of (by simp), fun p2 hp2 => ⟨p2, 4, _, rfl, rfl, upd_same, by decide, by decide, line_of (by simp), fun p3 hp3 => ?_⟩⟩
    have s3 := (same_new (o := .lst [iv r1]) hp2).trans (same_new (o := .lst (List.replicate (4 : Int).toNat [iv r1]).flatten) hp3)
    refine ⟨p1, p3, _, _, rfl, rfl, s3 _ _ hp2', upd_same, line_of (by rw [rep_len]; simp), fun p4 hp4 => ?_⟩
    have s4 := s3.trans (same_new hp4 (o := .lst ([.int ((List.map iv (cur hs)).length : Nat), .int (-1), .non, .bl false] ++ (List.replicate (4 : Int).toNat [iv r1]).flatten)))
    have W4 := W2.same s4
    have np4 : p4 ≠ d := fun z => by
      obtain ⟨nn, z'⟩ := (W2.same s3).dr.ex
      rw [← z, hp4] at z'
      cases z'
    refine ⟨d, sa, p4, cs, _, rfl, W4.dr, upd_same, np4, (by simp), fun i5 x HB ex k5 d5 => ?_⟩
    have sx : simV x := sim_all (fun z hz => by
      rcases List.mem_append.mp hz with hz | hz
      · simp only [List.mem_cons, List.not_mem_nil, or_false] at hz
        rcases hz with rfl | rfl | rfl | rfl
        · exact sim_i _
        · exact sim_i _
        · exact .inl rfl
        · exact sim_b _
      · exact sim_rep (sim_i _) z hz) ex
    have WB := W4.draw k5 d5
    have l3 : TI K HB lt (cur hs) := (imm_d W4.dr k5 (by simp : d ∉ [])).t (same_t s4 l3)
    have kB := (k2.trans (Keep.of s4)).trans k5
    have kd : Keep [d, p, r] H HB := kB.mono (by simp)
    obtain ⟨dx, b, kk, hpd, _⟩ := id WB.dk
    have hnn : ∀ {z : Str}, (z == ("base" : Str)) = false → (z == ("kept" : Str)) = false → (dF b kk).lookup z = none := fun a b => dF_no _ _ a b
    refine ⟨_, rfl, _, rfl, lt, _, rfl, .inr l3, _, (1 : Int), rfl, rfl, x, _, rfl, sx, _, rfl, ?_⟩
    rw [List.length_map]
    cases e1 : isNum x 0 (((cur hs).length : Int) - 1) with
    | false =>
      refine iteF ?_
      refine ⟨_, rfl, rfl, _, rfl, ?_⟩
      rw [dec_str (k := false) (by decide +kernel)]
      refine iteF (iteF ?_)
      refine ⟨_, rfl, p, dx, _, rfl, hpd, hnn (by decide +kernel) (by decide +kernel), _, rfl, p, x, tb, m, hs, fl, rfl, WB.dk, WB.ta, WB.ok, WB.ho, by omega, sx, fun _ => ?_, fun i sg ex hi => ?_⟩
      · refine ⟨true, T.e_BadPlace_BadPlace, fun _ a ha => ⟨_, rfl, rfl, ?_⟩, fun z => by cases z⟩
        rw [decide_eq_true rfl]
        exact q HB hs kd WB (by omega)
      · have := (List.getElem?_eq_some_iff.mp hi).1
        exact (isNum_lt e1 ex (by omega)).elim
    | true =>
      refine iteT ?_
      obtain ⟨i, rfl, hi⟩ := isNum_inv e1
      have hi : i < (cur hs).length := by omega
      obtain ⟨sg, hsg⟩ : ∃ sg, (cur hs)[i]? = some sg := ⟨_, List.getElem?_eq_getElem hi⟩
      have hat : (List.map iv (cur hs))[i]? = some (iv sg) := by rw [List.getElem?_map, hsg]; rfl
      refine ⟨_, rfl, rfl, _, rfl, ?_⟩
      rw [dec_str (k := true) (by decide +kernel)]
      refine iteT ?_
      refine ⟨_, rfl, newK rfl rfl l3 hi (by omega) fun u HC sC tC => ⟨md, m, u, _, rfl, WB.mo.same sC, WB.ok, tC, takeT_vt c1, fun HD sD => ⟨_, rfl, ?_⟩⟩⟩
      have WD := WB.same (sC.trans sD)
      have l3 := same_t (sC.trans sD) l3
      have kD : Keep [d, p, r] H HD := kd.trans (Keep.of (sC.trans sD))
      have hpd := (sC.trans sD) _ _ hpd
      cases et : m.tame (takeT (cur hs) i) with
      | false =>
        refine iteT ?_
        refine ⟨_, rfl, p, dx, _, rfl, hpd, hnn (by decide +kernel) (by decide +kernel), _, rfl, p, iv i, tb, m, hs, fl, rfl, WD.dk, WD.ta, WD.ok, WD.ho, by omega, sx, fun z => ?_, fun i' sg' ex' hi' => ⟨fun _ HE sE => ?_, fun z => ?_⟩⟩
        · rw [e1] at z; cases z
        · refine ⟨false, T.e_BadEdit_BadPlace, (fun z => by cases z), fun _ => ⟨true, T.e_BadEdit_BadEdit, fun _ a ha => ⟨_, rfl, rfl, ?_⟩, fun z => by cases z⟩⟩
          rw [decide_eq_true rfl]
          exact q HE hs (kD.trans (Keep.of sE)) (WD.same sE) (by omega)
        · have e3 : i' = i := by injection ex' with z; omega
          rw [e3, et] at z
          cases z
      | true =>
        refine iteF ?_
        refine ⟨_, rfl, p, dx, _, rfl, hpd, hnn (by decide +kernel) (by decide +kernel), _, rfl, p, iv i, tb, m, hs, fl, rfl, WD.dk, WD.ta, WD.ok, WD.ho, by omega, sx, fun z => ?_, fun i' sg' ex' hi' => ?_⟩
        · rw [e1] at z; cases z
        · have e3 : i' = i := by injection ex' with z; omega
          subst e3
          have e4 : sg' = sg := by rw [hsg] at hi'; exact (Option.some.inj hi').symm
          subst e4
          refine ⟨(fun z => by rw [et] at z; cases z), fun _ HE kE dE => ?_⟩
          have WE := WD.desk kE dE
          have l3 : TI K HE lt (cur hs) := (imm1 kE hpd (ins_nf (by simp : p ∉ []))).t l3
          have kE' : Keep [d, p, r] H HE := kD.trans (kE.mono (by simp))
          refine ⟨_, rfl, rfl, _, rfl, ?_⟩
          rw [dec_str (k := true) (by decide +kernel)]
          refine iteF ?_
          obtain ⟨xr, hxr, hxl⟩ := rows_list WE.rw_
          refine ⟨_, rfl, .inl ⟨rfl, _, sqL hxr⟩, _, rfl, _, rfl, _, rfl, lt, _, (i' : Int), _, rfl, rfl, l3, atI_nat hat, line_of (by simp), fun q1 hq1 => ?_⟩
          have sF := same_new (o := .tup [.str "take", iv i', iv sg']) hq1
          have tq1 : EdAt K (upd HE q1 (.tup [.str "take", iv i', iv sg'])) q1 ⟨false, i', sg'⟩ := new_t
          refine newK rfl rfl (same_t sF l3) hi (by omega) fun u2 HG sG tG => ⟨line_of (by simp), fun q2 hq2 => ?_⟩
          have sH := same_new (o := .tup [.ref q1, .ref u2]) hq2
          have sEH := sF.trans (sG.trans sH)
          have WH := WE.same sEH
          have hxr' := sEH _ _ hxr
          have l3 := same_t sEH l3
          have nt : NoteR K (upd HG q2 (.tup [.ref q1, .ref u2])) q2 (⟨false, i', sg'⟩, takeT (cur hs) i') := ⟨q1, u2, new_t, same_t (sG.trans sH) tq1, same_t sH tG⟩
          generalize upd HG q2 (.tup [.ref q1, .ref u2]) = HH at sEH WH hxr' nt l3 ⊢
          refine ⟨r, _, _, rfl, rfl, hxr', line_lt (by omega), ?_⟩
          have lF : TI K (upd HH r (.lst (xr ++ [.ref q2]))) lt (cur hs) := (imm1 (keep_upd Keep.refl) hxr' (lst_nf (by simp : r ∉ []))).t l3
          refine ⟨_, rfl, _, rfl, _, rfl, lt, _, (i' : Int), _, rfl, rfl, lF, atI_nat hat, rfl, ?_⟩
          rw [decide_eq_true rfl]
          refine q _ (hs ++ [(⟨false, i', sg'⟩, takeT (cur hs) i')]) ((kE'.trans (Keep.of sEH)).trans ((keep_upd Keep.refl : Keep [r] HH _).mono (by simp))) (WH.rows (keep_upd Keep.refl) (rows_snoc WH.rw_ hxr' nt) W0.ndr W0.nsr n3.symm n6 W0.ok
            (hok_snoc W0.ho (takeT_vt c1) et (by show (takeT _ _).length ≤ _; have := takeT_len hi; omega)) (by have := W0.fl_; simp; omega)) (by simp)
/-! ### the last edit taken back -/
theorem shaped_ed (e : Ed) : SeqAt.shaped (edD e) = true := by
  unfold SeqAt.shaped
  have h1 : (edD e).canLay0 = true := by
    simp [edD, PyData.canLay0, PyData.canLayAll0]
    cases e.put <;> decide +kernel
  have h2 : (edD e).depth = 1 := by simp [edD, PyData.depth, PyData.depthAll]
  rw [h1, h2]
  rfl
theorem eqv_ed (e : Ed) : PyData.eqv (edD e) (edD e) = true := by simp [edD, PyData.eqv, PyData.eqvAll]
theorem rows_pop {H : Hp} {r : Addr} {hs : Hist} {q : Ed × List Nat} (h : RowsAt K H r (hs ++ [q])) : ∃ xs n, H r = some (.lst (xs ++ [.ref n])) ∧ NoteR K H n q ∧ RowsAt K (upd H r (.lst xs)) r hs := by
  obtain ⟨q0, t0, rv, e1, e2, e3, e4⟩ := h
  obtain ⟨l0, n, rfl, g1, g2⟩ := paired_snoc e4
  refine ⟨.ref q0 :: l0.map V.ref, n, ?_, g2, ?_⟩
  · rw [e1, List.map_append]
    rfl
  · have i0 : Imm [] H (upd H r (.lst (.ref q0 :: l0.map V.ref))) := imm1 (keep_upd Keep.refl) e1 (lst_nf (by simp))
    exact ⟨q0, t0, l0, upd_same, i0.t e2, i0.t e3, paired_imp g1 fun _ _ z => z.imm i0⟩
def spUR (K : PySem.W.Frag) : Sp := fun vs H Q _ => ∃ (d s md p r tb : Addr) (cs : List Int) (m : Mo) (hs : Hist) (fl : Nat), vs = [.ref p, .ref r, iv fl] ∧ Wd K H d s md p r tb cs m hs fl ∧ hs.length ≤ 150 ∧
  ∀ H' hs', Keep [p, r] H H' → Wd K H' d s md p r tb cs m hs' fl → hs'.length = (if fl < hs.length then hs.length - 1 else hs.length) → Q (.bl true) H'
theorem k_ur (T : Tx K mg) : Cal P w K mg base 2 "_law_undone_right" (spUR K) [] := by
  obtain ⟨fd, F⟩ := T.F_L_undone_right
  refine calOf F (bL_undone_right F) T.g__law_undone_right scL_undone_right (fun vs H Q E h => ?_) (fun cdv A outer s H vs Q E hr h => ?_)
  · obtain ⟨d, sa, md, p, r, tb, cs, m, hs, fl, rfl, _⟩ := h
    rfl
  · obtain ⟨d, sa, md, p, r, tb, cs, m, hs, fl, rfl, W0, hz, q⟩ := h
    have hu := hr.units
    refine ⟨_, pss_cons (ps_if (pt_cmpR op_gt (pe_op op_sub (pe_callB call_len_seq rfl T.n_len PySem.boot_len (pa_cons (pv 1) pa_nil)) pe_int) (pv 2) (nomark _))
        (pss_one (ps_ret (pe_cmpR (op_eqD hu) (pe_mtX0 (k_undo T) hr (by decide) takes_none5 (pv 0)) (pe_ix ix_tup (pe_bm0 PySem.F.plainAttrs_list PySem.F.slot_list_pop PySem.F.type_list_pop mt_pop (pv 1)) pe_int (fun _ _ => rfl)) (nomark _)))) pss_nil)
      (pss_cons (ps_try_many (tb := fun W => tDrop (tMethX (He.ga K "Desk") "undo" (spUndo K) (WE W) (tVar 0) tNil)) rfl rfl takes_none5 (fun W pn xe tk _ => pss_one (ps_expr (pe_mtX0 (k_undo T) hr (by decide) tk (pv 0))))
          (.cons (ts := fun _ _ _ => tRet (tC (.bl true))) ⟨rfl, by decide, .inl T.g_NothingDone⟩ (fun _ _ _ _ _ _ _ => pss_one (ps_ret pe_bl)) .nil))
      (pss_one (ps_ret pe_bl))), ?_⟩
    obtain ⟨xr, hxr, hxl⟩ := rows_list W0.rw_
    obtain ⟨n1, n2, n3, n4, n5, n6⟩ := W0.np
    obtain ⟨dx, b, kk, hpd, _⟩ := id W0.dk
    have hnn : ∀ {z : Str}, (z == ("base" : Str)) = false → (z == ("kept" : Str)) = false → (dF b kk).lookup z = none := fun a b => dF_no _ _ a b
    refine ⟨_, rfl, r, _, rfl, .inl (sqL hxr), _, (1 : Int), rfl, rfl, _, rfl, _, _, rfl, rfl, _, rfl, ?_⟩
    rw [hxl]
    by_cases c : fl < hs.length
    · rw [show decide (((fl : Nat) : Int) < (((hs.length + 1 : Nat) : Int) - 1)) = true from decide_eq_true (by omega)]
      rw [if_pos c] at q
      refine iteT ?_
      refine ⟨_, rfl, p, dx, _, rfl, hpd, hnn (by decide +kernel) (by decide +kernel), p, tb, m, hs, fl, rfl, W0.dk, by omega, fun z => by omega, fun hs0 q0 eh _ e H1 k1 d1 he => ?_⟩
      subst eh
      have WP := W0.desk k1 d1
      obtain ⟨xs, n, x1, x2, x3⟩ := rows_pop WP.rw_
      obtain ⟨e', t', y1, y2, y3⟩ := x2
      refine ⟨_, rfl, .inl ⟨rfl, _, sqL x1⟩, r, _, .ref n, rfl, rfl, x1, by simp, ?_⟩
      rw [List.dropLast_concat]
      have i2 : Imm [] H1 (upd H1 r (.lst xs)) := imm1 (keep_upd Keep.refl) x1 (lst_nf (by simp))
      refine ⟨n, _, 0, _, rfl, rfl, i2.t y1, rfl, edD q0.1, edD q0.1, dp_ed (i2.t he), dp_ed (i2.t y2), shaped_ed _, shaped_ed _, ?_⟩
      rw [eqv_ed]
      have hl : fl ≤ hs0.length := by simp at c; omega
      exact q _ hs0 ((k1.mono (by simp)).trans ((keep_upd Keep.refl : Keep [r] H1 _).mono (by simp))) (WP.rows (keep_upd Keep.refl) x3 W0.ndr W0.nsr n3.symm n6 W0.ok (hok_left W0.ho) hl) (by simp)
    · rw [show decide (((fl : Nat) : Int) < (((hs.length + 1 : Nat) : Int) - 1)) = false from decide_eq_false (by omega)]
      rw [if_neg c] at q
      refine iteF ?_
      refine ⟨_, rfl, p, dx, _, rfl, hpd, hnn (by decide +kernel) (by decide +kernel), p, tb, m, hs, fl, rfl, W0.dk, by omega, fun _ H1 s1 => ?_, fun hs0 q0 eh z => by omega⟩
      exact ⟨true, T.e_NothingDone_NothingDone, fun _ a ha => q H1 hs (Keep.of s1) (W0.same s1) rfl, fun z => by cases z⟩
end
end Des
end T_D17
section T_D18
set_option linter.all false
set_option maxRecDepth 100000
set_option maxHeartbeats 600000
namespace Des
open PySem PySem.Spec PyProof.Rows L2
open C8 (Cal Met Mak pe_c pe_mk pe_mt pe_mt0)
open StX (pa_star)
open NdefX
/-! ### the code table of the def that has a def within -/
def atDef : He.Defn := ("_law_attempt_right", none)
def cA (K : PySem.W.Frag) : Addr := (He.cT K atDef).1
def tA (K : PySem.W.Frag) : Addr := (He.cT K atDef).2
def nmW : Nat → Nat → Str := fun _ _ => ("_law_attempt_right" : Str) ++ ".<locals>." ++ "_law_work"
abbrev TbW (K : PySem.W.Frag) (H : Hp) : Prop := TabN H (tA K) nmW
def Live (H : Hp) (a : Addr) : Prop := (∃ xs, H a = some (.lst xs)) ∨ ∃ C dx fs, H a = some (.ins C dx fs)
theorem Live.no {H : Hp} {a : Addr} {o : HO} (l : Live H a) (e : H a = some o) (h1 : ∀ xs, o ≠ .lst xs) (h2 : ∀ C dx fs, o ≠ .ins C dx fs) : False := by
  rcases l with ⟨xs, z⟩ | ⟨C, dx, fs, z⟩
  · rw [e] at z; exact h1 _ (Option.some.inj z)
  · rw [e] at z; exact h2 _ _ _ (Option.some.inj z)
theorem Live.nf {H : Hp} {a : Addr} (l : Live H a) : ∀ o, H a = some o → ¬ Fxd [] a o := fun o e => by
  rcases l with ⟨xs, z⟩ | ⟨C, dx, fs, z⟩
  · rw [e] at z; rw [Option.some.inj z]; exact lst_nf (by simp)
  · rw [e] at z; rw [Option.some.inj z]; exact ins_nf (by simp)
theorem tbw_keep {K : PySem.W.Frag} {H H' : Hp} {S : List Addr} (t : TbW K H) (k : Keep S H H') (l : ∀ a ∈ S, Live H a) : TbW K H' := by
  obtain ⟨ps, h1, h2, h3⟩ := t
  refine ⟨ps, k _ _ h1 (fun z => (l _ z).no h1 (fun _ => by simp) (fun _ _ _ => by simp)), h2, fun pos cv hc => ?_⟩
  obtain ⟨c, e1, e2⟩ := h3 pos cv hc
  exact ⟨c, e1, k _ _ e2 (fun z => (l _ z).no e2 (fun _ z => by unfold LamX.CodeO at z; cases z) (fun _ _ _ z => by unfold LamX.CodeO at z; cases z))⟩
theorem tbw_same {K : PySem.W.Frag} {H H' : Hp} (t : TbW K H) (e : Same H H') : TbW K H' := tbw_keep t (Keep.of e : Keep [] H H') fun a ha => by simp at ha
section
variable {K : PySem.W.Frag} {H H' : Hp} {d s md p r tb : Addr} {cs : List Int} {m : Mo} {hs : Hist} {fl : Nat}
theorem Wd.live (w : Wd K H d s md p r tb cs m hs fl) : ∀ a ∈ [d, p, r], Live H a := fun a ha => by
  simp only [List.mem_cons, List.not_mem_nil, or_false] at ha
  rcases ha with rfl | rfl | rfl
  · obtain ⟨n, e⟩ := w.dr.ex
    exact .inl ⟨_, e⟩
  · obtain ⟨dx, b, k, e, _⟩ := w.dk
    exact .inr ⟨_, _, _, e⟩
  · obtain ⟨q0, t0, rv, e, _⟩ := w.rw_
    exact .inl ⟨_, e⟩
theorem Wd.nt (w : Wd K H d s md p r tb cs m hs fl) {a : Addr} (ha : a ∈ [d, p, r]) {ps : Array Value} : H a ≠ some (.tbl ps) := fun z => (w.live a ha).no z (fun _ => by simp) (fun _ _ _ => by simp)
/-- the tables may change, all else stays -/
theorem Wd.ext (w : Wd K H d s md p r tb cs m hs fl) (k : KeepN [] H H') : Wd K H' d s md p r tb cs m hs fl := by
  obtain ⟨dx, c, r', s', e5⟩ := tab_ins w.ta
  have i : Imm [tb] H H' := k.imm (fun a ha => by simp at ha) (fun a ha ps z => by
    rw [List.mem_singleton] at ha
    rw [ha, e5] at z
    cases z)
  have i0 : Imm [] H H' := k.imm0 fun a ha => by simp at ha
  obtain ⟨n, z⟩ := w.dr.ex
  obtain ⟨dy, b, kk, e3, _⟩ := id w.dk
  obtain ⟨q0, t0, rv, e4, _⟩ := id w.rw_
  exact ⟨⟨⟨n, k _ _ z (by simp) (fun _ => by simp)⟩, k _ _ w.dr.sc (by simp) (fun _ => by simp), w.dr.ne⟩, w.mo.imm i0, w.ta.imm i (by simp), w.dk.imm i0 (fun o e => k _ _ e (by simp) (fun ps z => by subst z; rw [e3] at e; cases e)),
    w.rw_.imm i0 (fun o e => k _ _ e (by simp) (fun ps z => by subst z; rw [e4] at e; cases e)), w.ok, w.ho, w.ndr, w.nsr, w.fl_⟩
end
section
variable {P : Program} {w : World} {K : PySem.W.Frag} {mg : Str → Option Value} {base : Heap}
/-- a def whose code object is known -/
theorem okC {CX : CXT} {x qual : Str} {params : Arguments} {body : List Stmt} {scope : Scope} {dvs : List V} {kws : List (Str × V)} {p : He.Defn} {fd : FuncData} {N ps : List Str} {k : Nat} {sp : Sp}
    (F : FunD K x qual params body scope dvs kws (He.fAd K p) fd) (S : FnScope N ps scope) (len : ∀ vs H Q E, sp vs H Q E → vs.length = ps.length)
    (hbody : ∀ (A : Around) (outer : List Env) (s : Shared) (H : Hp) (vs : List V) (Q : VK) (E : XK), Room k (A.deeper (envOfC qual scope s.heap.objs.size (He.fAd K p) (.ref (He.cT K p).1))) → sp vs H Q E →
      ∃ t, PSs (cxOf CX P w K mg base N qual scope (He.fAd K p) (.ref (He.cT K p).1) A outer s H E) body t ∧ t { nx := fun _ H' => Q .non H', rt := Q } (start N vs) H) : FnOk P w K mg base CX (k + 1) (He.fAd K p) fd ps sp := by
  obtain ⟨oc, od, dV, kV, doc, pm, an, cdv, ct, osl, rfl, lk, hcd, _, _⟩ := F.ex
  obtain ⟨c, rfl⟩ := He.codeIn_ref hcd
  have e : (He.cT K p).1 = c := He.codeOf_eq lk rfl
  rw [e] at hbody
  exact fn_of lk hcd S len hbody
/-! ### spell's promise -/
def spSpell (K : PySem.W.Frag) (D : Nat) : Sp := fun vs H Q _ => ∃ (d s md p r tb : Addr) (cs : List Int) (m : Mo) (hs : Hist) (fl : Nat), vs = [.ref d, .ref md, .ref p, .ref r, iv fl, iv D] ∧ Wd K H d s md p r tb cs m hs fl ∧ TbW K H ∧ hs.length + 9 * (D + 1) ≤ 140 ∧
  ∀ H' hs', KeepN [d, p, r] H H' → Wd K H' d s md p r tb cs m hs' fl → TbW K H' → hs'.length ≤ hs.length + 9 → Q (.bl true) H'
def spAR (K : PySem.W.Frag) (D : Nat) : Sp := fun vs H Q _ => ∃ (d s md p r tb : Addr) (cs : List Int) (m : Mo) (hs : Hist) (fl : Nat), vs = [.ref d, .ref md, .ref p, .ref r, iv (D + 1)] ∧ Wd K H d s md p r tb cs m hs fl ∧ TbW K H ∧ hs.length + 9 * (D + 1) ≤ 140 ∧
  ∀ H', KeepN [d, p, r] H H' → Wd K H' d s md p r tb cs m hs fl → TbW K H' → Q (.bl true) H'
/-! ### the def within -/
def sWork : Stmt := (defBody sL_attempt_right).getD 1 (.Pass ⟨0, 0, 0, 0⟩)
abbrev frW : List Str := ["_law_draw_here", "_law_model", "_law_rows", "_law_depth", "_law_is_left", "_law_kept"]
theorem scWork : NScope ("_law_inner" :: frW) ["_law_inner"] frW (C8.fnScope sWork) := ⟨rfl, rfl, rfl, by decide +kernel, rfl, by decide +kernel, by decide +kernel, by decide +kernel, by decide +kernel⟩
def spWork (K : PySem.W.Frag) (D : Nat) (ws : List (Option V)) : Sp := fun vs H Q E => ∃ (d s md p r tb kp : Addr) (cs : List Int) (m : Mo) (hs : Hist) (left : Bool) (xs : List V), vs = [.ref p] ∧ ws = [some (.ref d), some (.ref md), some (.ref r), some (iv (D + 1)), some (.bl left), some (.ref kp)] ∧
  Wd K H d s md p r tb cs m hs hs.length ∧ TbW K H ∧ hs.length + 9 * (D + 1) ≤ 140 ∧ H kp = some (.lst xs) ∧ xs.length = hs.length + 1 ∧ 
  ∀ H' hs', KeepN [d, p, r] H H' → Wd K H' d s md p r tb cs m hs' hs.length → TbW K H' → (left = false → Q (.bl true) H') ∧ (left = true → ∀ dd, E (.type "KeyError") dd H')
theorem k_work (T : Tx K mg) (D kS : Nat) (kSp : Cal P w K mg base kS "_law_spell" (spSpell K D) []) (f c' : Addr) (q : Str) (cl : List (Str × Addr)) :
    NOk P w K mg base (L2.CX P w) (kS + 1) f (NF.of sWork "_law_work" q cl c') ["_law_inner"] frW (spWork K D) := by
  refine nok_of (N := "_law_inner" :: frW) scWork (fun _ _ _ us hl => match us, hl with | [_], _ => rfl) (fun ws vs H Q E h => ?_) (fun A outer s H vs ws Q E hr hf hc hl h => ?_)
  · obtain ⟨d, sa, md, p, r, tb, kp, cs, m, hs, left, xs, rfl, _⟩ := h
    rfl
  · obtain ⟨d, sa, md, p, r, tb, kp, cs, m, hs, left, xs, rfl, rfl, W0, tW, hz, hkp, hxl, q'⟩ := h
    refine ⟨_, pss_cons (ps_if (pt_not (pt_val (pe_c kSp hr (Nat.le_refl _) rfl (pa_cons (pv 1) (pa_cons (pv 2) (pa_cons (pv 0) (pa_cons (pv 3) (pa_cons (pe_op op_sub (pe_callB call_len_seq rfl T.n_len PySem.boot_len (pa_cons (pv 6) pa_nil)) pe_int)
          (pa_cons (pe_op op_sub (pv 4) pe_int) pa_nil))))))))) (pss_one ps_never) pss_nil)
      (pss_cons (ps_if (pt_val (pv 5)) (pss_one (ps_raise rfl (takes_of rfl rfl rfl rfl) (pmk_exc PyProof.Rows.excClass_KeyError ty_KeyError rfl T.n_KeyError boot_KeyError (pa_cons pe_str pa_nil)))) pss_nil)
      (pss_one (ps_ret pe_bl))), ?_⟩
    refine ⟨_, rfl, _, rfl, _, rfl, _, rfl, _, rfl, kp, _, rfl, .inl (sqL hkp), _, (1 : Int), rfl, rfl, _, rfl, _, (1 : Int), rfl, rfl, d, sa, md, p, r, tb, cs, m, hs, hs.length, ?_, W0, tW, hz, fun H' hs' k' W' t' _ => ⟨_, rfl, iteF ?_⟩⟩
    · show [V.ref d, V.ref md, V.ref p, V.ref r, V.int ((xs.length : Int) - 1), V.int (((D + 1 : Nat) : Int) - 1)] = _
      rw [hxl]
      have e1 : (((hs.length + 1 : Nat) : Int) - 1) = (hs.length : Int) := by omega
      have e2 : (((D + 1 : Nat) : Int) - 1) = (D : Int) := by omega
      rw [e1, e2]
    · obtain ⟨q1, q2⟩ := q' H' hs' k' W' t'
      refine ⟨_, rfl, _, rfl, ?_⟩
      cases left with
      | true => exact iteT ⟨(by show 1 ≤ sizeLine; exact line_of (by decide)), fun dd => q2 rfl dd⟩
      | false => exact iteF (q1 rfl)
/-! ### an attempt that is right -/
theorem freeW : ∀ y ∈ (C8.fnScope sWork).names, y.2 = .free → (defScope sL_attempt_right).names.lookup y.1 = some .cell ∨ (defScope sL_attempt_right).names.lookup y.1 = some .free := by decide +kernel
theorem del_keep {cs : Cs} {H : Hp} {a : Addr} {o : HO} (t : Trk cs H) (e : H a = some o) (n : ∀ ob, o ≠ .frz ob (.own 0)) : delC cs H a = some o := by
  cases q : cs.lookup a with
  | none => exact (delC_out q).trans e
  | some ob =>
    rw [t a ob q] at e
    exact absurd (Option.some.inj e).symm (n ob)
theorem tbw_del {K : PySem.W.Frag} {cs : Cs} {H : Hp} (t : Trk cs H) (h : TbW K H) : TbW K (delC cs H) := by
  obtain ⟨ps, h1, h2, h3⟩ := h
  refine ⟨ps, del_keep t h1 (fun _ => by simp), h2, fun pos cv hc => ?_⟩
  obtain ⟨c, e1, e2⟩ := h3 pos cv hc
  exact ⟨c, e1, del_keep t e2 (fun ob => codeO_nf ob)⟩
/-- what is kept ahead and behind the exit -/
structure Pc (K : PySem.W.Frag) (H : Hp) (d s p r : Addr) (cs : List Int) : Prop where
  dr : Dr H d s cs
  rl : ∃ xs, H r = some (.lst xs)
  pl : Live H p
  tw : TbW K H
theorem scA : FnScope ["_law_draw_here", "_law_model", "_law_desk", "_law_rows", "_law_depth", "_law_work", "_law_is_fine", "_law_is_left", "_law_kept"] ["_law_draw_here", "_law_model", "_law_desk", "_law_rows", "_law_depth"] (defScope sL_attempt_right) := scL_attempt_right
theorem k_ar (T : Tx K mg) (TB : LamX.TabB base mg (cA K) (tA K)) (D kS : Nat) (h4 : 13 ≤ kS) (kSp : Cal P w K mg base kS "_law_spell" (spSpell K D) []) : Cal P w K mg base (kS + 3) "_law_attempt_right" (spAR K D) [] := by
  obtain ⟨fd, F⟩ := T.F_L_attempt_right
  obtain ⟨fA, fdA, psA, clA, mA, FA, bA⟩ := (k_att (P := P) (w := w) (base := base) T (kS + 1) (by omega)).ex
  refine ⟨_, fd, _, [], okC (p := atDef) F scL_attempt_right (fun vs H Q E h => ?_) (fun A outer s H vs Q E hr h => ?_), T.g__law_attempt_right, F.kp, bL_attempt_right F, .nil⟩
  · obtain ⟨d, sa, md, p, r, tb, cs, m, hs, fl, rfl, _⟩ := h
    rfl
  · obtain ⟨d, sa, md, p, r, tb, cs, m, hs, fl, rfl, W0, tW, hz, q⟩ := h
    refine ⟨_, PSs.nox (pss_cons (ps_asg (pe_tup (pa_cons (pe_callTy call_list_of rfl T.n_list boot_list_ (pa_cons (pv 3) pa_nil)) (pa_cons (pe_cmpR op_eq (pe_c (k_next T) hr (by omega) rfl (pa_cons (pv 0) (pa_cons pe_int pa_nil))) pe_int (nomark _)) pa_nil)))
          (pg_tup rfl (pgs_cons (pg_name (i := 8) scL_attempt_right.nd rfl (Or.inr rfl)) (pgs_cons (pg_name (i := 7) scL_attempt_right.nd rfl (Or.inr rfl)) pgs_nil))))
      (pss_cons (ps_ndefMS (st := sWork) (T := [(tA K, nmW)]) (nm := nmW) (c := cA K) (P := tA K) (i := 5) rfl TB rfl (List.mem_singleton_self _) rfl (fun p hp _ => by rw [List.mem_singleton.mp hp]) freeW rfl rfl rfl scL_attempt_right.nd rfl (Or.inl rfl) (Or.inr rfl))
      (pss_cons (ps_try_many (tb := fun W => tAsg (tAndV (tMethC (He.ga K "Desk") "attempt" (spAtt P w K mg base (kS + 1)) (WE W) (cloFrom (cxOf CX0 P w K mg base ["_law_draw_here", "_law_model", "_law_desk", "_law_rows", "_law_depth", "_law_work", "_law_is_fine", "_law_is_left", "_law_kept"] "_law_attempt_right" (defScope sL_attempt_right) (He.fAd K atDef) (.ref (He.cT K atDef).1) A outer s H E).nox.env.cells (C8.fnScope sWork).names []) frW [0, 1, 3, 4, 7, 8] (tVar 2) (tCons (tVar 5) tNil)) (tNotV (tVar 7))) (gName 6)) rfl rfl takes_none5
          (fun W pn xe tk _ => pss_one (ps_set (i := 6) scL_attempt_right.nd rfl (Or.inl rfl) (pe_and (pe_methC (pv 2) clA mA FA (hr.mono (by omega)) bA tk (fun ok => Caps.made ok freeW (by decide +kernel) rfl) (fun _ _ _ => rfl) (pa_cons (pv 5) pa_nil)) (pe_one (pe_not (pv 7))))))
          (.cons (ts := fun _ _ _ => tAsg (tVar 7) (gName 6)) (names_blt rfl T.n_KeyError boot_KeyError) (fun _ _ _ _ _ _ _ => pss_one (ps_set (i := 6) scL_attempt_right.nd rfl (Or.inl rfl) (pv 7))) .nil))
      (pss_cons (ps_expr (pe_bm0 PySem.F.plainAttrs_list PySem.F.slot_list_clear PySem.F.type_list_clear mt_clear (pv 3)))
      (pss_cons (ps_expr (pe_bm PySem.F.plainAttrs_list PySem.F.slot_list_extend PySem.F.type_list_extend mt_extend (pv 3) (pa_cons (pv 8) pa_nil)))
      (pss_one (ps_ret (pv 6)))))))), ?_⟩
    obtain ⟨xr, hxr, hxl⟩ := rows_list W0.rw_
    obtain ⟨n1, n2, n3, n4, n5, n6⟩ := W0.np
    refine ⟨_, rfl, r, _, rfl, .inl (sqL hxr), fun kp hkp => ?_⟩
    have s1 := same_new (o := .lst xr) hkp
    have hkp1 : upd H kp (.lst xr) kp = some (.lst xr) := upd_same
    have W1 := W0.same s1
    have t1 := tbw_same tW s1
    have kpd : kp ≠ d := fun z => by
      obtain ⟨n, e⟩ := W0.dr.ex
      rw [← z, hkp] at e; cases e
    have kpp : kp ≠ p := fun z => by
      obtain ⟨dx, b, k, e, _⟩ := W0.dk
      rw [← z, hkp] at e; cases e
    have kpr : kp ≠ r := fun z => by rw [← z, hkp] at hxr; cases hxr
    generalize upd H kp (.lst xr) = H1 at s1 hkp1 W1 t1 ⊢
    refine ⟨_, rfl, d, sa, cs, 2, rfl, W1.dr, by decide, fun r1 H2 hr1 k2 d2 => ⟨rfl, line_of (by simp), fun p2 hp2 => ?_⟩⟩
    have W2 := W1.draw k2 d2
    have t2 : TbW K H2 := tbw_keep t1 k2 fun a ha => W1.live a (by simp only [List.mem_singleton] at ha; simp [ha])
    have hkp2 := k2 _ _ hkp1 (by simpa using kpd)
    generalize hleft : decide (V.int ((r1 : Nat) : Int) = V.int 0) = left
    have s3 := same_new (o := .tup [.ref kp, .bl left]) hp2
    have W3 := W2.same s3
    have t3 := tbw_same t2 s3
    have hkp3 := s3 _ _ hkp2
    have tp3 : SqT K (upd H2 p2 (.tup [.ref kp, .bl left])) p2 [.ref kp, .bl left] := new_t
    have k03 : Keep [d] H (upd H2 p2 (.tup [.ref kp, .bl left])) := (Keep.of s1).trans (k2.trans (Keep.of s3))
    refine ⟨p2, [.ref kp, .bl left], rfl, tp3, rfl, _, _, rfl, _, _, rfl, rfl, ?_⟩
    generalize upd H2 p2 (.tup [.ref kp, .bl left]) = H3 at W3 t3 hkp3 k03
    refine ⟨fun z hz => by rw [List.mem_singleton] at hz; subst hz; exact t3, fun f c' H4 ext _ tabs4 nf hf hc' => ?_⟩
    have kn4 : KeepN [] H3 H4 := fun a o e _ n => ext a o e n
    have W4 := W3.ext kn4
    have t4 : TbW K H4 := tabs4 (tA K, nmW) (List.mem_singleton_self _)
    have hkp4 : H4 kp = some (.lst xr) := kn4 _ _ hkp3 (by simp) (fun _ => by simp)
    have kn04 : KeepN [d] H H4 := (KeepN.of k03).trans (kn4.mono (by simp))
    obtain ⟨dx, b, kk, hpd, _⟩ := id W4.dk
    have tail : ∀ (σ' : L2.St) (G : Hp), σ'[3]? = some (some (.ref r)) → σ'[8]? = some (some (.ref kp)) → σ'[6]? = some (some (.bl true)) → KeepN [d, p, r] H4 G → Dr G d sa cs → DeskAt K G p tb m hs fl → (∃ xs, G r = some (.lst xs)) → TbW K G →
        tSeq (tDrop (tBM0 K "list" rClear (tVar 3))) (tSeq (tDrop (tBM K "list" rExtend (tVar 3) (tCons (tVar 8) tNil))) (tRet (tVar 6))) { nx := fun _ H' => Q .non H', rt := Q } σ' G := fun σ' G g3 g8 g6 kG dG pG ⟨xs, rG⟩ tG => by
      have hkG : G kp = some (.lst xr) := kG _ _ hkp4 (by simp [kpd, kpp, kpr]) (fun _ => by simp)
      have iG : Imm [tb] H4 G := kG.imm (fun a ha o e => by
          rcases W4.live a ha with ⟨ys, z⟩ | ⟨C, dy, fs, z⟩
          · rw [e] at z; rw [Option.some.inj z]
            exact lst_nf (by simp only [List.mem_cons, List.not_mem_nil, or_false] at ha ⊢; rcases ha with rfl | rfl | rfl; exact n5.symm; exact n4.symm; exact n6.symm)
          · rw [e] at z; rw [Option.some.inj z]
            exact ins_nf (by simp only [List.mem_cons, List.not_mem_nil, or_false] at ha ⊢; rcases ha with rfl | rfl | rfl; exact n5.symm; exact n4.symm; exact n6.symm))
        (fun a ha ps z => by
          rw [List.mem_singleton] at ha
          obtain ⟨dy, c, r', s', e5⟩ := tab_ins W4.ta
          rw [ha, e5] at z; cases z)
      have i0 : Imm [] H4 G := kG.imm0 fun a ha => (W4.live a ha).nf
      have dsz : xr.length ≤ sizeLine := line_of (by omega)
      refine ⟨_, g3, .inl ⟨rfl, _, sqL rG⟩, r, _, rfl, rfl, rG, ?_⟩
      refine ⟨_, g3, .inl ⟨rfl, _, sqL upd_same⟩, _, g8, r, kp, _, _, rfl, rfl, upd_same, (upd_ne kpr).trans hkG, by simpa using dsz, ?_⟩
      rw [List.nil_append]
      have kF : Keep [r] G (upd (upd G r (.lst [])) r (.lst xr)) := keep_upd (keep_upd Keep.refl)
      have iF : Imm [tb] G (upd (upd G r (.lst [])) r (.lst xr)) := imm1 kF rG (lst_nf (by simpa using n6.symm))
      have iF0 : Imm [] G (upd (upd G r (.lst [])) r (.lst xr)) := imm1 kF rG (lst_nf (by simp))
      have hrF : upd (upd G r (.lst [])) r (.lst xr) r = some (.lst xr) := upd_same
      generalize upd (upd G r (.lst [])) r (.lst xr) = GF at kF iF iF0 hrF ⊢
      have i04 : Imm [] H H4 := kn04.imm0 fun a ha => (W0.live a (by simp only [List.mem_singleton] at ha; simp [ha])).nf
      have iT := i04.trans (i0.trans iF0)
      obtain ⟨q0, t0, rv, e1, e2, e3, e4⟩ := W0.rw_
      rw [e1] at hxr
      have hxr := Option.some.inj hxr
      injection hxr with hxr
      refine ⟨_, g6, q GF ((kn04.mono (by simp)).trans (kG.trans (KeepN.of (kF.mono (by simp))))) ⟨dG.keep kF (by simpa using W0.ndr) (by simpa using W0.nsr), W4.mo.imm (i0.trans iF0), W4.ta.imm (iG.trans iF) (by simp), pG.imm iF0 (fun o e => kF _ _ e (by simpa using n3.symm)),
        ⟨q0, t0, rv, by rw [hrF, hxr], iT.t e2, iT.t e3, paired_imp e4 fun _ _ z => z.imm iT⟩, W0.ok, W0.ho, W0.ndr, W0.nsr, W0.fl_⟩ (tbw_keep tG kF fun a ha => ?_)⟩
      rw [List.mem_singleton] at ha
      subst ha
      exact .inl ⟨_, rG⟩
    refine ⟨_, rfl, p, dx, _, rfl, hpd, dF_no _ _ (by decide +kernel) (by decide +kernel), _, rfl, fun ccs hCS hU => ?_⟩
    have sA := same_add hU
    have WA := W4.same sA
    have wrap : ∀ H3', KeepN [d, p, r] (addC ccs H4) H3' → DeskAt K H3' p tb m hs fl → Dr H3' d sa cs → (∃ xs, H3' r = some (.lst xs)) → TbW K H3' → KeepN [d, p, r] H4 (delC ccs H3') ∧ Dr (delC ccs H3') d sa cs ∧ DeskAt K (delC ccs H3') p tb m hs fl ∧ (∃ xs, delC ccs H3' r = some (.lst xs)) ∧ TbW K (delC ccs H3') := fun H3' k3 p3 d3 ⟨xs, r3⟩ t3' => by
      have tr : Trk ccs H3' := fun b o e => k3 b _ (trk_add b o e) (fun z => by
        have := WA.live b z
        exact this.no (trk_add b o e) (fun _ => by simp) (fun _ _ _ => by simp)) (fun _ => by simp)
      obtain ⟨n, z⟩ := d3.ex
      refine ⟨keepN_uncells hU k3, ⟨⟨n, del_keep tr z (fun _ => by simp)⟩, del_keep tr d3.sc (fun _ => by simp), d3.ne⟩, p3.imm (imm_del (Fx := []) tr fun a ha => by simp at ha) (fun o e => ?_), ⟨xs, del_keep tr r3 (fun _ => by simp)⟩, tbw_del tr t3'⟩
      obtain ⟨dy, b', k', e3, _⟩ := p3
      rw [e3] at e
      rw [← Option.some.inj e]
      exact del_keep tr e3 (fun _ => by simp)
    refine ⟨p, f, tb, m, hs, fl, [d, p, r], (fun v H' => v = .bl true ∧ left = false ∧ Pc K H' d sa p r cs), (fun c dd H' => c = .type "KeyError" ∧ left = true ∧ Pc K H' d sa p r cs), _, ccs, frW, ["_law_inner"], _, kS + 1, spWork K D, rfl, sA _ _ hf, sA _ _ hc', trk_add,
      k_work T D kS kSp f c' _ _, Nat.le_refl _, hCS, WA.dk, by omega, fun a ha => ?_, by simp, fun HB Q' E' kB dB hQ hE => ?_, fun v H2' H3' pv k3 kk3 d3 => ?_, fun c dd H2' H3' px k3 kk3 d3 => ?_⟩
    · rcases WA.live a ha with ⟨xs, z⟩ | ⟨C, dy, fs, z⟩
      · exact ⟨_, z, lst_nf (by simp)⟩
      · exact ⟨_, z, ins_nf (by simp)⟩
    · -- the def within
      have tr : Trk ccs HB := keep_trk trk_add kB (fun a ha => by
        rw [List.mem_singleton] at ha
        subst ha
        cases e : ccs.lookup a with
        | none => rfl
        | some o => exact ((WA.live a (by simp)).no (trk_add a o e) (fun _ => by simp) (fun _ _ _ => by simp)).elim)
      have kG : Keep [p] H4 (delC ccs HB) := keep_uncells hU kB
      have dG : DeskAt K (delC ccs HB) p tb m hs hs.length := dB.imm (imm_del (Fx := []) tr fun a ha => by simp at ha) (fun o e => by
        obtain ⟨dy, b', k', e3, _⟩ := dB
        rw [e3] at e
        rw [← Option.some.inj e]
        exact del_keep tr e3 (fun _ => by simp))
      have WG := W4.desk kG dG
      have WW : Wd K (delC ccs HB) d sa md p r tb cs m hs hs.length := ⟨WG.dr, WG.mo, WG.ta, WG.dk, WG.rw_, W0.ok, W0.ho, W0.ndr, W0.nsr, Nat.le_refl _⟩
      have tG : TbW K (delC ccs HB) := tbw_keep t4 kG fun a ha => W4.live a (by simp only [List.mem_singleton] at ha; simp [ha])
      refine ⟨d, sa, md, p, r, tb, kp, cs, m, hs, left, xr, rfl, rfl, WW, tG, hz, kG _ _ hkp4 (by simpa using kpp), hxl, fun H' hs' k' W' t' => ⟨fun el U' => ?_, fun el dd U' => ?_⟩⟩
      · have sU := same_add U'
        have WU := W'.same sU
        refine hQ _ _ (keepN_cells tr k') ⟨hs', hs.length, WU.dk⟩ ⟨rfl, el, WU.dr, ?_, WU.live p (by simp), tbw_same t' sU⟩
        obtain ⟨q0, t0, rv, e, _⟩ := WU.rw_
        exact ⟨_, e⟩
      · have sU := same_add U'
        have WU := W'.same sU
        refine hE _ _ _ ⟨.ty "KeyError", rfl⟩ (keepN_cells tr k') ⟨hs', hs.length, WU.dk⟩ ⟨rfl, el, WU.dr, ?_, WU.live p (by simp), tbw_same t' sU⟩
        obtain ⟨q0, t0, rv, e, _⟩ := WU.rw_
        exact ⟨_, e⟩
    · obtain ⟨rfl, el, pc⟩ := pv
      obtain ⟨xs, rl⟩ := pc.rl
      obtain ⟨g1, g2, g3, g4, g5⟩ := wrap H3' kk3 d3 (pc.dr.keep k3 (by simpa using n1) (by simpa using n2)) ⟨xs, k3 _ _ rl (by simpa using n3)⟩ (tbw_keep pc.tw k3 fun a ha => by rw [List.mem_singleton] at ha; rw [ha]; exact pc.pl)
      refine ⟨true, rfl, iteT ⟨_, rfl, left, rfl, ?_⟩⟩
      exact tail _ _ rfl rfl (by rw [el]; rfl) g1 g2 g3 g4 g5
    · obtain ⟨rfl, el, pc⟩ := px
      obtain ⟨xs, rl⟩ := pc.rl
      obtain ⟨g1, g2, g3, g4, g5⟩ := wrap H3' kk3 d3 (pc.dr.keep k3 (by simpa using n1) (by simpa using n2)) ⟨xs, k3 _ _ rl (by simpa using n3)⟩ (tbw_keep pc.tw k3 fun a ha => by rw [List.mem_singleton] at ha; rw [ha]; exact pc.pl)
      refine ⟨true, exm_KE, fun _ a ha => ⟨_, rfl, ?_⟩, fun z => by cases z⟩
      exact tail _ _ rfl rfl (by rw [el]; rfl) g1 g2 g3 g4 g5
end
end Des
end T_D18
section T_D19
set_option linter.all false
set_option maxRecDepth 100000
set_option maxHeartbeats 600000
namespace Des
open PySem PySem.Spec PyProof.Rows L2
open C8 (Cal Met Mak pe_c pe_mk pe_mt pe_mt0)
open StX (pa_star)
open NdefX
section
variable {P : Program} {w : World} {K : PySem.W.Frag} {mg : Str → Option Value} {base : Heap}
def spARD (K : PySem.W.Frag) : Nat → Sp
  | 0 => fun _ _ _ _ => False
  | D + 1 => spAR K D
theorem k_ar0 (T : Tx K mg) : Cal P w K mg base 1 "_law_attempt_right" (spARD K 0) [] := by
  obtain ⟨fd, F⟩ := T.F_L_attempt_right
  exact calOf F (bL_attempt_right F) T.g__law_attempt_right scL_attempt_right (fun vs H Q E h => h.elim) (fun cdv A outer s H vs Q E hr h => h.elim)
theorem k_spell (T : Tx K mg) (D kA : Nat) (hk : 15 ≤ kA) (j : Nat) (hj : j ≤ kA) (kAR : Cal P w K mg base j "_law_attempt_right" (spARD K D) []) : Cal P w K mg base (kA + 1) "_law_spell" (spSpell K D) [] := by
  obtain ⟨fd, F⟩ := T.F_L_spell
  refine calOf F (bL_spell F) T.g__law_spell scL_spell (fun vs H Q E h => ?_) (fun cdv A outer s H vs Q E hr h => ?_)
  · obtain ⟨d, sa, md, p, r, tb, cs, m, hs, fl, rfl, _⟩ := h
    rfl
  · obtain ⟨d, sa, md, p, r, tb, cs, m, hs, fl, rfl, W0, tW, hz, q⟩ := h
    refine ⟨_, pss_cons (ps_for PassesOwn.never rfl (pi_range1 rfl T.n_range (pa_cons pe_int pa_nil)) (pg_name (i := 6) scL_spell.nd rfl (Or.inl rfl))
        (pss_cons (ps_par (i := 7) (j := 8) (by rfl) scL_spell.nd rfl rfl (by decide) rfl rfl (pa_cons (pe_c (k_next T) hr (by omega) rfl (pa_cons (pv 0) (pa_cons pe_int pa_nil))) (pa_cons pe_bl pa_nil)) (by rfl))
        (pss_cons (ps_if (PW.pt (pw_or (pt_cmpR op_lt (pv 7) pe_int (nomark _)) (pw_or1 (PW.pt (pw_and (pt_cmpR op_eq (pv 5) pe_int (nomark _)) (pw_and1 (pt_cmpR op_eq (pv 7) pe_int (nomark _))))))))
          (pss_one (ps_set (i := 8) scL_spell.nd rfl (Or.inl rfl) (pe_c (k_pr T) hr (by omega) rfl (pa_cons (pv 0) (pa_cons (pv 1) (pa_cons (pv 2) (pa_cons (pv 3) pa_nil)))))))
          (pss_one (ps_if (pt_cmpR op_lt (pv 7) pe_int (nomark _))
            (pss_one (ps_set (i := 8) scL_spell.nd rfl (Or.inl rfl) (pe_c (k_tr T) hr (by omega) rfl (pa_cons (pv 0) (pa_cons (pv 1) (pa_cons (pv 2) (pa_cons (pv 3) pa_nil)))))))
            (pss_one (ps_if (pt_cmpR op_eq (pv 7) pe_int (nomark _))
              (pss_one (ps_set (i := 8) scL_spell.nd rfl (Or.inl rfl) (pe_c (k_ur T) hr (by omega) rfl (pa_cons (pv 2) (pa_cons (pv 3) (pa_cons (pv 4) pa_nil))))))
              (pss_one (ps_set (i := 8) scL_spell.nd rfl (Or.inl rfl) (pe_c kAR hr (by omega) rfl (pa_cons (pv 0) (pa_cons (pv 1) (pa_cons (pv 2) (pa_cons (pv 3) (pa_cons (pv 5) pa_nil)))))))))))))
        (pss_one (ps_if (PW.pt (pw_or (pt_not (pt_val (pv 8))) (pw_or1 (pt_not (pt_val (pe_c (k_same T) hr (by omega) rfl (pa_cons (pv 1) (pa_cons (pv 2) (pa_cons (pv 3) pa_nil)))))))))
          (pss_one ps_never) pss_nil)))))
      (pss_one (ps_ret pe_bl)), ?_⟩
    refine ⟨9, rfl, by decide, by decide, ?_⟩
    refine for_range (lo := 0) (n := 9) (fun i σ H' => ∃ hs' o6 o7 o8, KeepN [d, p, r] H H' ∧ Wd K H' d sa md p r tb cs m hs' fl ∧ TbW K H' ∧ hs'.length ≤ hs.length + i ∧ σ = [some (.ref d), some (.ref md), some (.ref p), some (.ref r), some (iv fl), some (iv D), o6, o7, o8])
      ⟨hs, _, _, _, KeepN.of Keep.refl, W0, tW, Nat.le_refl _, rfl⟩ (fun i σ H' hi hp => ?_) (fun σ H' hp => ?_)
    · obtain ⟨hs', o6, o7, o8, k0, W1, t1, hl, rfl⟩ := hp
      show gName 6 _ _ _ _
      refine ⟨_, rfl, d, sa, cs, 10, rfl, W1.dr, by decide, fun r1 H2 hr1 k2 d2 => ⟨_, _, rfl, ?_⟩⟩
      have W2 := W1.draw k2 d2
      have t2 : TbW K H2 := tbw_keep t1 k2 fun a ha => W1.live a (by simp only [List.mem_singleton] at ha; simp [ha])
      have k02 : KeepN [d, p, r] H H2 := k0.trans (KeepN.of (k2.mono (by simp)))
      have put : ∀ σ', σ' = [some (V.ref d), some (.ref md), some (.ref p), some (.ref r), some (iv fl), some (iv D), some (.int (0 + (i : Int))), some (iv r1), some (.bl true)] → σ' = σ' := fun _ _ => rfl
      refine ⟨_, rfl, _, (6 : Int), rfl, rfl, _, rfl, ?_⟩
      by_cases c6 : r1 < 6
      · rw [show decide (((r1 : Nat) : Int) < 6) = true from decide_eq_true (by omega)]
        refine iteT ?_
        refine ⟨_, rfl, _, rfl, _, rfl, _, rfl, d, sa, md, p, r, tb, cs, m, hs', fl, rfl, W2, by omega, fun H3 hs3 k3 W3 hl3 => ?_⟩
        have t3 : TbW K H3 := tbw_keep t2 k3 fun a ha => W2.live a ha
        have KK : KeepN [d, p, r] H H3 := k02.trans (KeepN.of k3)
        refine ⟨_, rfl, _, rfl, iteF ?_⟩
        refine ⟨_, rfl, _, rfl, _, rfl, md, p, r, tb, m, hs3, fl, rfl, W3.mo, W3.ta, W3.dk, W3.rw_, W3.ok, W3.ho, by omega, fun H5 s5 => ⟨_, rfl, iteF ?_⟩⟩
        exact ⟨hs3, _, _, _, KK.trans (KeepN.of (Keep.of s5)), W3.same s5, tbw_same t3 s5, by omega, rfl⟩
      · rw [show decide (((r1 : Nat) : Int) < 6) = false from decide_eq_false (by omega)]
        refine iteF ?_
        refine ⟨_, rfl, rfl, _, rfl, ?_⟩
        rw [show decide (V.int ((D : Nat) : Int) = V.int 0) = decide (D = 0) from dec_nat _ 0]
        by_cases cD : D = 0 ∧ r1 = 9
        · rw [decide_eq_true cD.1]
          refine iteT ⟨_, rfl, rfl, _, rfl, ?_⟩
          rw [show decide (V.int ((r1 : Nat) : Int) = V.int 9) = true from decide_eq_true (by rw [cD.2]; rfl)]
          refine iteT ?_
          refine ⟨_, rfl, _, rfl, _, rfl, _, rfl, d, sa, md, p, r, tb, cs, m, hs', fl, rfl, W2, by omega, fun H3 hs3 k3 W3 hl3 => ?_⟩
          have t3 : TbW K H3 := tbw_keep t2 k3 fun a ha => W2.live a ha
          have KK : KeepN [d, p, r] H H3 := k02.trans (KeepN.of k3)
          refine ⟨_, rfl, _, rfl, iteF ?_⟩
          refine ⟨_, rfl, _, rfl, _, rfl, md, p, r, tb, m, hs3, fl, rfl, W3.mo, W3.ta, W3.dk, W3.rw_, W3.ok, W3.ho, by omega, fun H5 s5 => ⟨_, rfl, iteF ?_⟩⟩
          exact ⟨hs3, _, _, _, KK.trans (KeepN.of (Keep.of s5)), W3.same s5, tbw_same t3 s5, by omega, rfl⟩
        · have skip : ∀ {A B : Prop}, B → (if decide (D = 0) = true then A else B) → True := fun _ _ => trivial
          have key : ∀ {X : TT} {σ : L2.St} {Hx : Hp} {Q1 : Bool → Hp → Prop}, ((D = 0) → X σ Hx Q1) → (D ≠ 0 → Q1 false Hx) → if decide (D = 0) = true then X σ Hx Q1 else Q1 false Hx := fun {X σ Hx Q1} a b => by
            by_cases z : D = 0
            · rw [decide_eq_true z]; exact iteT (a z)
            · rw [decide_eq_false z]; exact iteF (b z)
          refine key (fun z => ⟨_, rfl, rfl, _, rfl, ?_⟩) (fun z => ?_)
          · rw [show decide (V.int ((r1 : Nat) : Int) = V.int 9) = false from decide_eq_false (fun e => cD ⟨z, by injection e with e; omega⟩)]
            refine iteF ?_
            refine ⟨_, rfl, _, (8 : Int), rfl, rfl, _, rfl, ?_⟩
            by_cases c8 : r1 < 8
            · rw [show decide (((r1 : Nat) : Int) < 8) = true from decide_eq_true (by omega)]
              refine iteT ?_
              refine ⟨_, rfl, _, rfl, _, rfl, _, rfl, d, sa, md, p, r, tb, cs, m, hs', fl, rfl, W2, by omega, fun H3 hs3 k3 W3 hl3 => ?_⟩
              have t3 : TbW K H3 := tbw_keep t2 k3 fun a ha => W2.live a ha
              have KK : KeepN [d, p, r] H H3 := k02.trans (KeepN.of k3)
              refine ⟨_, rfl, _, rfl, iteF ?_⟩
              refine ⟨_, rfl, _, rfl, _, rfl, md, p, r, tb, m, hs3, fl, rfl, W3.mo, W3.ta, W3.dk, W3.rw_, W3.ok, W3.ho, by omega, fun H5 s5 => ⟨_, rfl, iteF ?_⟩⟩
              exact ⟨hs3, _, _, _, KK.trans (KeepN.of (Keep.of s5)), W3.same s5, tbw_same t3 s5, by omega, rfl⟩
            · rw [show decide (((r1 : Nat) : Int) < 8) = false from decide_eq_false (by omega)]
              refine iteF ?_
              refine ⟨_, rfl, rfl, _, rfl, ?_⟩
              by_cases c9 : r1 = 8
              · rw [show decide (V.int ((r1 : Nat) : Int) = V.int 8) = true from decide_eq_true (by rw [c9]; rfl)]
                refine iteT ?_
                refine ⟨_, rfl, _, rfl, _, rfl, d, sa, md, p, r, tb, cs, m, hs', fl, rfl, W2, by omega, fun H3 hs3 k3 W3 hl3 => ?_⟩
                have t3 : TbW K H3 := tbw_keep t2 k3 fun a ha => W2.live a (by simp only [List.mem_cons, List.not_mem_nil, or_false] at ha ⊢; exact .inr ha)
                have KK : KeepN [d, p, r] H H3 := k02.trans (KeepN.of (k3.mono (by simp)))
                have hl3 : hs3.length ≤ hs'.length := by rw [hl3]; split <;> omega
                refine ⟨_, rfl, _, rfl, iteF ?_⟩
                refine ⟨_, rfl, _, rfl, _, rfl, md, p, r, tb, m, hs3, fl, rfl, W3.mo, W3.ta, W3.dk, W3.rw_, W3.ok, W3.ho, by omega, fun H5 s5 => ⟨_, rfl, iteF ?_⟩⟩
                exact ⟨hs3, _, _, _, KK.trans (KeepN.of (Keep.of s5)), W3.same s5, tbw_same t3 s5, by omega, rfl⟩
              · rw [show decide (V.int ((r1 : Nat) : Int) = V.int 8) = false from decide_eq_false (fun e => c9 (by injection e with e; omega))]
                refine iteF ?_
                exact absurd ⟨z, by omega⟩ cD
          · refine iteF ?_
            refine ⟨_, rfl, _, (8 : Int), rfl, rfl, _, rfl, ?_⟩
            by_cases c8 : r1 < 8
            · rw [show decide (((r1 : Nat) : Int) < 8) = true from decide_eq_true (by omega)]
              refine iteT ?_
              refine ⟨_, rfl, _, rfl, _, rfl, _, rfl, d, sa, md, p, r, tb, cs, m, hs', fl, rfl, W2, by omega, fun H3 hs3 k3 W3 hl3 => ?_⟩
              have t3 : TbW K H3 := tbw_keep t2 k3 fun a ha => W2.live a ha
              have KK : KeepN [d, p, r] H H3 := k02.trans (KeepN.of k3)
              refine ⟨_, rfl, _, rfl, iteF ?_⟩
              refine ⟨_, rfl, _, rfl, _, rfl, md, p, r, tb, m, hs3, fl, rfl, W3.mo, W3.ta, W3.dk, W3.rw_, W3.ok, W3.ho, by omega, fun H5 s5 => ⟨_, rfl, iteF ?_⟩⟩
              exact ⟨hs3, _, _, _, KK.trans (KeepN.of (Keep.of s5)), W3.same s5, tbw_same t3 s5, by omega, rfl⟩
            · rw [show decide (((r1 : Nat) : Int) < 8) = false from decide_eq_false (by omega)]
              refine iteF ?_
              refine ⟨_, rfl, rfl, _, rfl, ?_⟩
              by_cases c9 : r1 = 8
              · rw [show decide (V.int ((r1 : Nat) : Int) = V.int 8) = true from decide_eq_true (by rw [c9]; rfl)]
                refine iteT ?_
                refine ⟨_, rfl, _, rfl, _, rfl, d, sa, md, p, r, tb, cs, m, hs', fl, rfl, W2, by omega, fun H3 hs3 k3 W3 hl3 => ?_⟩
                have t3 : TbW K H3 := tbw_keep t2 k3 fun a ha => W2.live a (by simp only [List.mem_cons, List.not_mem_nil, or_false] at ha ⊢; exact .inr ha)
                have KK : KeepN [d, p, r] H H3 := k02.trans (KeepN.of (k3.mono (by simp)))
                have hl3 : hs3.length ≤ hs'.length := by rw [hl3]; split <;> omega
                refine ⟨_, rfl, _, rfl, iteF ?_⟩
                refine ⟨_, rfl, _, rfl, _, rfl, md, p, r, tb, m, hs3, fl, rfl, W3.mo, W3.ta, W3.dk, W3.rw_, W3.ok, W3.ho, by omega, fun H5 s5 => ⟨_, rfl, iteF ?_⟩⟩
                exact ⟨hs3, _, _, _, KK.trans (KeepN.of (Keep.of s5)), W3.same s5, tbw_same t3 s5, by omega, rfl⟩
              · rw [show decide (V.int ((r1 : Nat) : Int) = V.int 8) = false from decide_eq_false (fun e => c9 (by injection e with e; omega))]
                refine iteF ?_
                obtain ⟨D', rfl⟩ := Nat.exists_eq_succ_of_ne_zero z
                refine ⟨_, rfl, _, rfl, _, rfl, _, rfl, _, rfl, d, sa, md, p, r, tb, cs, m, hs', fl, rfl, W2, t2, by omega, fun H3 k3 W3 t3 => ?_⟩
                have KK : KeepN [d, p, r] H H3 := k02.trans k3
                refine ⟨_, rfl, _, rfl, iteF ?_⟩
                refine ⟨_, rfl, _, rfl, _, rfl, md, p, r, tb, m, hs', fl, rfl, W3.mo, W3.ta, W3.dk, W3.rw_, W3.ok, W3.ho, by omega, fun H5 s5 => ⟨_, rfl, iteF ?_⟩⟩
                exact ⟨hs', _, _, _, KK.trans (KeepN.of (Keep.of s5)), W3.same s5, tbw_same t3 s5, by omega, rfl⟩
    · obtain ⟨hs', o6, o7, o8, k0, W1, t1, hl, rfl⟩ := hp
      exact q H' hs' k0 W1 t1 hl
end
end Des
end T_D19
section T_D20
set_option linter.all false
set_option maxRecDepth 100000
set_option maxHeartbeats 600000
namespace Des
open PySem PySem.Spec PyProof.Rows L2
open C8 (Cal Met Mak pe_c pe_mk pe_mt pe_mt0)
open StX (pa_star)
open NdefX
section
variable {P : Program} {w : World} {K : PySem.W.Frag} {mg : Str → Option Value} {base : Heap}
def spLMade (K : PySem.W.Frag) : Sp := fun vs H Q _ => ∃ md m, vs = [.ref md] ∧ ModAt K H md m ∧ m.Ok ∧ ∀ tb H', Same H H' → TabAt K H' tb m → Q (.ref tb) H'
/-! ### all of it -/
theorem k_spell2 (T : Tx K mg) (TB : LamX.TabB base mg (cA K) (tA K)) : Cal P w K mg base 20 "_law_spell" (spSpell K 1) [] ∧ Cal P w K mg base 24 "_law_spell" (spSpell K 2) [] := by
  have s0 : Cal P w K mg base 16 "_law_spell" (spSpell K 0) [] := k_spell T 0 15 (by decide) 1 (by decide) (k_ar0 T)
  have a1 : Cal P w K mg base 19 "_law_attempt_right" (spARD K 1) [] := k_ar T TB 0 16 (by decide) s0
  have s1 : Cal P w K mg base 20 "_law_spell" (spSpell K 1) [] := k_spell T 1 19 (by decide) 19 (by decide) a1
  have a2 : Cal P w K mg base 23 "_law_attempt_right" (spARD K 2) [] := k_ar T TB 1 20 (by decide) s1
  exact ⟨s1, k_spell T 2 23 (by decide) 23 (by decide) a2⟩
theorem Wd.other {H H' : Hp} {d s md p r p' r' tb : Addr} {cs : List Int} {m : Mo} {hs hs' : Hist} {fl fl' : Nat} (w : Wd K H d s md p r tb cs m hs fl) (w1 : Wd K H d s md p' r' tb cs m hs' fl') (k : KeepN [d, p', r'] H H') (dr : Dr H' d s cs) (n1 : p ≠ p') (n2 : r ≠ r') : Wd K H' d s md p r tb cs m hs fl := by
  obtain ⟨n1a, n2a, n3a, n4a, n5a, n6a⟩ := w.np
  obtain ⟨n1b, n2b, n3b, n4b, n5b, n6b⟩ := w1.np
  obtain ⟨dx, c, rr, s', e5⟩ := tab_ins w.ta
  have i : Imm [tb] H H' := k.imm (fun a ha o e => by
      rcases w1.live a ha with ⟨ys, z⟩ | ⟨C, dy, fs, z⟩
      · rw [e] at z; rw [Option.some.inj z]
        exact lst_nf (by simp only [List.mem_cons, List.not_mem_nil, or_false] at ha ⊢; rcases ha with rfl | rfl | rfl; exact n5b.symm; exact n4b.symm; exact n6b.symm)
      · rw [e] at z; rw [Option.some.inj z]
        exact ins_nf (by simp only [List.mem_cons, List.not_mem_nil, or_false] at ha ⊢; rcases ha with rfl | rfl | rfl; exact n5b.symm; exact n4b.symm; exact n6b.symm))
    (fun a ha ps z => by
      rw [List.mem_singleton] at ha
      rw [ha, e5] at z; cases z)
  have i0 : Imm [] H H' := k.imm0 fun a ha => (w1.live a ha).nf
  obtain ⟨dy, b, kk, e3, _⟩ := id w.dk
  obtain ⟨q0, t0, rv, e4, _⟩ := id w.rw_
  obtain ⟨q0', t0', rv', e4', _⟩ := id w1.rw_
  obtain ⟨dy', b', kk', e3', _⟩ := id w1.dk
  have pr' : p ≠ r' := fun z => by rw [z, e4'] at e3; cases e3
  have rp' : r ≠ p' := fun z => by rw [z, e3'] at e4; cases e4
  exact ⟨dr, w.mo.imm i0, w.ta.imm i (by simp), w.dk.imm i0 (fun o e => k _ _ e (by simp [n1a.symm, n1, pr']) (fun ps z => by subst z; rw [e3] at e; cases e)),
    w.rw_.imm i0 (fun o e => k _ _ e (by simp [w.ndr.symm, n2, rp']) (fun ps z => by subst z; rw [e4] at e; cases e)), w.ok, w.ho, w.ndr, w.nsr, w.fl_⟩
def spLaw (K : PySem.W.Frag) : Sp := fun vs H Q _ => ∃ (a : Addr) (ns : List Int), vs = [.ref a] ∧ SqL K H a (ns.map V.int) ∧ TbW K H ∧ ∀ H', Q (.bl true) H'
theorem ok_law (T : Tx K mg) (TB : LamX.TabB base mg (cA K) (tA K)) (kM : Cal P w K mg base 12 "_law_made" (spLMade K) []) : ∃ fd, FnOk P w K mg base CX0 26 (He.ga K "law") fd ["_law_script"] (spLaw K) ∧ Fdlaw K (He.ga K "law") fd := by
  obtain ⟨fd, F⟩ := T.F_law
  obtain ⟨sp1, sp2⟩ := k_spell2 (P := P) (w := w) T TB
  refine ⟨fd, fnOf (st := slaw) F sclaw (fun vs H Q E h => ?_) (fun cdv A outer s H vs Q E hr h => ?_), F⟩
  · obtain ⟨a, ns, rfl, _⟩ := h
    rfl
  · obtain ⟨a, ns, rfl, ha, tW, q⟩ := h
    refine ⟨_, pss_cons (ps_set (i := 1) sclaw.nd rfl (Or.inl rfl) (pe_lst (pa_cons (pe_slice sl_list (pv 0) po_none (po_some pe_int)) (pa_cons pe_int (pa_cons pe_int pa_nil)))))
      (pss_cons (ps_set (i := 2) sclaw.nd rfl (Or.inl rfl) (pe_c (k_ltab T) hr (by decide) rfl (pa_cons (pv 1) (pa_cons pe_int pa_nil))))
      (pss_cons (ps_par (i := 3) (j := 4) (by rfl) sclaw.nd rfl rfl (by decide) rfl rfl (pa_cons (pe_mk (k_dinit T) hr (by decide) rfl (pa_cons (pe_c kM hr (by decide) rfl (pa_cons (pv 2) pa_nil)) (pa_cons (pe_ix ix_tup (pv 2) pe_int (fun _ _ => rfl)) pa_nil)))
          (pa_cons (pe_lst (pa_cons (pe_tup (pa_cons pe_non (pa_cons (pe_tup pa_nil) pa_nil))) pa_nil)) pa_nil)) (by rfl))
      (pss_cons (ps_for PassesOwn.never rfl (pi_range1 rfl T.n_range (pa_cons pe_int pa_nil)) (pg_name (i := 5) sclaw.nd rfl (Or.inl rfl))
        (pss_cons (ps_if (pt_not (pt_val (pe_c sp2 hr (by decide) rfl (pa_cons (pv 1) (pa_cons (pv 2) (pa_cons (pv 3) (pa_cons (pv 4) (pa_cons pe_int (pa_cons pe_int pa_nil))))))))) (pss_one ps_never) pss_nil)
        (pss_cons (ps_par (i := 6) (j := 7) (by rfl) sclaw.nd rfl rfl (by decide) rfl rfl (pa_cons (pe_mt0 (k_branch T) hr (by decide) (pv 3)) (pa_cons (pe_callTy call_list_of rfl T.n_list boot_list_ (pa_cons (pv 4) pa_nil)) pa_nil)) (by rfl))
        (pss_one (ps_if (PW.pt (pw_or (pt_not (pt_val (pe_c sp1 hr (by decide) rfl (pa_cons (pv 1) (pa_cons (pv 2) (pa_cons (pv 6) (pa_cons (pv 7) (pa_cons pe_int (pa_cons pe_int pa_nil))))))))) (pw_or1 (pt_not (pt_val (pe_c (k_same T) hr (by decide) rfl (pa_cons (pv 2) (pa_cons (pv 3) (pa_cons (pv 4) pa_nil)))))))))
          (pss_one ps_never) pss_nil)))))
      (pss_cons (ps_for PassesOwn.never rfl (pi_range1 rfl T.n_range (pa_cons (pe_op op_sub (pe_callB call_len_seq rfl T.n_len PySem.boot_len (pa_cons (pv 4) pa_nil)) pe_int) pa_nil)) (pg_name (i := 5) sclaw.nd rfl (Or.inl rfl))
        (pss_one (ps_if (PW.pt (pw_or (pt_not (pt_val (pe_c (k_ur T) hr (by decide) rfl (pa_cons (pv 3) (pa_cons (pv 4) (pa_cons pe_int pa_nil)))))) (pw_or1 (pt_not (pt_val (pe_c (k_same T) hr (by decide) rfl (pa_cons (pv 2) (pa_cons (pv 3) (pa_cons (pv 4) pa_nil)))))))))
          (pss_one ps_never) pss_nil)))
      (pss_one (ps_ret (pe_c (k_ur T) hr (by decide) rfl (pa_cons (pv 3) (pa_cons (pv 4) (pa_cons pe_int pa_nil)))))))))), ?_⟩
    refine ⟨_, rfl, ?_⟩
    dsimp only [tNoPart]
    refine ⟨(63 : Int), rfl, a, _, rfl, ha, fun sa hsa => ?_⟩
    obtain ⟨cs, hcs⟩ : ∃ cs : List Int, cutV (ns.map V.int) none (some 63) = cs.map V.int := by
      unfold cutV
      rw [← List.map_drop, ← List.map_take]
      exact ⟨_, rfl⟩
    rw [hcs]
    have s1 := same_new (o := .lst (cs.map V.int)) hsa
    refine ⟨line_of (by simp), fun d hd => ?_⟩
    have s2 := same_new (o := .lst [.ref sa, .int 0, .int 0]) hd
    have dr0 : Dr (upd (upd H sa (.lst (cs.map V.int))) d (.lst [.ref sa, .int 0, .int 0])) d sa cs := ⟨⟨0, upd_same⟩, s2 _ _ upd_same, ne_of_none upd_same hd⟩
    have t0 := tbw_same tW (s1.trans s2)
    generalize upd (upd H sa (.lst (cs.map V.int))) d (.lst [.ref sa, .int 0, .int 0]) = H0 at dr0 t0
    refine ⟨_, rfl, d, sa, cs, rfl, dr0, fun md m H1 ok k1 d1 mo => ?_⟩
    have t1 : TbW K H1 := tbw_keep t0 k1 fun a ha => by
      rw [List.mem_singleton] at ha
      subst ha
      obtain ⟨n, e⟩ := dr0.ex
      exact .inl ⟨_, e⟩
    obtain ⟨cc, rr, sh, m1, _⟩ := id mo.ex
    refine ⟨_, rfl, md, m, rfl, mo, ok, fun tb H2 s2 ta => ?_⟩
    refine ⟨_, rfl, md, _, 3, _, rfl, rfl, same_t s2 m1, rfl, fun p dx' np ndx _ => ?_⟩
    have s0 : Same H2 (upd (upd H2 dx' (.own p)) p (.ins (He.ga K "Desk") dx' [])) := made_same np ndx Keep.refl
    refine ⟨p, dx', tb, m, rfl, upd_same, ta.same s0, fun H3 k3 dk3 => ⟨rfl, ?_⟩⟩
    have s3 : Same H2 H3 := made_same np ndx k3
    refine ⟨line_of (by simp), fun t0' ht0 => ⟨line_of (by simp), fun q0 hq0 => ⟨line_of (by simp), fun r hr' => ⟨_, _, rfl, ?_⟩⟩⟩⟩
    have e1 := same_new (o := .tup []) ht0
    have e2 := same_new (o := .tup [.non, .ref t0']) hq0
    have e3 := same_new (o := .lst [.ref q0]) hr'
    have f1 : SqT K (upd H3 t0' (.tup [])) t0' [] := new_t
    have f2 : SqT K (upd (upd H3 t0' (.tup [])) q0 (.tup [.non, .ref t0'])) q0 [.non, .ref t0'] := new_t
    have rw0 : RowsAt K (upd (upd (upd H3 t0' (.tup [])) q0 (.tup [.non, .ref t0'])) r (.lst [.ref q0])) r [] := ⟨q0, t0', [], upd_same, same_t e3 f2, same_t (e2.trans e3) f1, .nil⟩
    have e13 := e1.trans (e2.trans e3)
    have s24 := s3.trans e13
    obtain ⟨n', z'⟩ := d1.ex
    have ndr : d ≠ r := ne_of_none ((s2.trans (s3.trans (e1.trans e2))) _ _ z') hr'
    have nsr : sa ≠ r := ne_of_none ((s2.trans (s3.trans (e1.trans e2))) _ _ d1.sc) hr'
    have W4 : Wd K (upd (upd (upd H3 t0' (.tup [])) q0 (.tup [.non, .ref t0'])) r (.lst [.ref q0])) d sa md p r tb cs m [] 0 :=
      ⟨d1.same (s2.trans s24), mo.same (s2.trans s24), ta.same s24, dk3.same e13, rw0, ok, hok_nil, ndr, nsr, Nat.le_refl _⟩
    have t4 := tbw_same t1 (s2.trans s24)
    generalize upd (upd (upd H3 t0' (.tup [])) q0 (.tup [.non, .ref t0'])) r (.lst [.ref q0]) = H4 at W4 t4
    refine ⟨4, rfl, by decide, by decide, ?_⟩
    refine for_range (lo := 0) (n := 4) (fun i σ H' => ∃ hs o5 o6 o7, Wd K H' d sa md p r tb cs m hs 0 ∧ TbW K H' ∧ hs.length ≤ 9 * i ∧ σ = [some (.ref a), some (.ref d), some (.ref md), some (.ref p), some (.ref r), o5, o6, o7])
      ⟨[], _, _, _, W4, t4, Nat.zero_le _, rfl⟩ (fun i σ H5 hi hp => ?_) (fun σ H5 hp => ?_)
    · obtain ⟨hs, o5, o6, o7, W5, t5, hl, rfl⟩ := hp
      show gName 5 _ _ _ _
      refine ⟨_, rfl, _, rfl, _, rfl, _, rfl, d, sa, md, p, r, tb, cs, m, hs, 0, rfl, W5, t5, by omega, fun H6 hs6 k6 W6 t6 hl6 => ⟨_, rfl, iteF ?_⟩⟩
      obtain ⟨dx, b, kk, hpd, _⟩ := id W6.dk
      obtain ⟨n1, n2, n3, n4, n5, n6⟩ := W6.np
      refine ⟨_, rfl, p, dx, _, rfl, hpd, dF_no _ _ (by decide +kernel) (by decide +kernel), p, tb, m, hs6, 0, rfl, W6.dk, W6.ta, fun p' H7 np' s7 dk7 => ?_⟩
      have W7 := W6.same s7
      obtain ⟨xr, hxr, hxl⟩ := rows_list W7.rw_
      refine ⟨_, rfl, r, _, rfl, .inl (sqL hxr), fun r' hr7 => ⟨_, _, rfl, ?_⟩⟩
      have s8 := same_new (o := .lst xr) hr7
      have W8 := W7.same s8
      have nrr : r ≠ r' := ne_of_none hxr hr7
      have npp : p ≠ p' := ne_of_none hpd np'
      obtain ⟨n7, z7⟩ := W7.dr.ex
      have nd' : d ≠ r' := ne_of_none z7 hr7
      have ns' : sa ≠ r' := ne_of_none W7.dr.sc hr7
      have rw8 : RowsAt K (upd H7 r' (.lst xr)) r' hs6 := by
        obtain ⟨q0, t0, rv, e1, e2, e3, e4⟩ := W7.rw_
        rw [e1] at hxr
        have hxr := Option.some.inj hxr
        injection hxr with hxr
        subst hxr
        exact ⟨q0, t0, rv, upd_same, same_t s8 e2, same_t s8 e3, paired_imp e4 fun _ _ z => z.imm (Imm.of (Fx := []) s8)⟩
      have B8 : Wd K (upd H7 r' (.lst xr)) d sa md p' r' tb cs m hs6 0 := ⟨W8.dr, W8.mo, W8.ta, dk7.same s8, rw8, ok, W6.ho, nd', ns', Nat.zero_le _⟩
      have t8 := tbw_same t6 (s7.trans s8)
      generalize upd H7 r' (.lst xr) = H8 at W8 B8 t8
      refine ⟨_, rfl, _, rfl, _, rfl, _, rfl, d, sa, md, p', r', tb, cs, m, hs6, 0, rfl, B8, t8, by omega, fun H9 hs9 k9 B9 t9 hl9 => ⟨_, rfl, iteF ?_⟩⟩
      have W9 := W8.other B8 k9 B9.dr npp nrr
      refine ⟨_, rfl, _, rfl, _, rfl, md, p, r, tb, m, hs6, 0, rfl, W9.mo, W9.ta, W9.dk, W9.rw_, W9.ok, W9.ho, by omega, fun HA sA => ⟨_, rfl, iteF ?_⟩⟩
      exact ⟨hs6, _, _, _, W9.same sA, tbw_same t9 sA, by omega, rfl⟩
    · obtain ⟨hs, o5, o6, o7, W5, t5, hl, rfl⟩ := hp
      obtain ⟨xr, hxr, hxl⟩ := rows_list W5.rw_
      refine ⟨_, rfl, r, _, rfl, .inl (sqL hxr), _, (1 : Int), rfl, rfl, (xr.length : Int) - 1, rfl, by omega, by omega, ?_⟩
      refine for_range (lo := 0) (n := ((xr.length : Int) - 1).toNat) (fun i σ H' => ∃ hs o5 o6 o7, Wd K H' d sa md p r tb cs m hs 0 ∧ hs.length ≤ 36 ∧ σ = [some (.ref a), some (.ref d), some (.ref md), some (.ref p), some (.ref r), o5, o6, o7])
        ⟨hs, _, _, _, W5, by omega, rfl⟩ (fun i σ H6 hi hp => ?_) (fun σ H6 hp => ?_)
      · obtain ⟨hs6, o5, o6, o7, W6, hl6, rfl⟩ := hp
        show gName 5 _ _ _ _
        refine ⟨_, rfl, _, rfl, d, sa, md, p, r, tb, cs, m, hs6, 0, rfl, W6, by omega, fun H7 hs7 k7 W7 hl7 => ⟨_, rfl, iteF ?_⟩⟩
        have hl7 : hs7.length ≤ 36 := by rw [hl7]; split <;> omega
        refine ⟨_, rfl, _, rfl, _, rfl, md, p, r, tb, m, hs7, 0, rfl, W7.mo, W7.ta, W7.dk, W7.rw_, W7.ok, W7.ho, by omega, fun HA sA => ⟨_, rfl, iteF ?_⟩⟩
        exact ⟨hs7, _, _, _, W7.same sA, hl7, rfl⟩
      · obtain ⟨hs6, o5, o6, o7, W6, hl6, rfl⟩ := hp
        exact ⟨_, rfl, _, rfl, d, sa, md, p, r, tb, cs, m, hs6, 0, rfl, W6, by omega, fun H7 hs7 k7 W7 hl7 => q H7⟩
end
end Des
end T_D20
section T_D15
set_option linter.all false
set_option maxRecDepth 100000
set_option maxHeartbeats 600000
namespace Des
open PySem PySem.Spec PyProof.Rows L2
open C8 (Cal Met Mak pe_c pe_mk pe_mt pe_mt0)
open StX (pa_star)
theorem perm_sorted : ∀ {l1 l2 : List Int}, l1.Perm l2 → l1.Pairwise (· ≤ ·) → l2.Pairwise (· ≤ ·) → l1 = l2
  | [], l2, p, _, _ => (List.nil_perm.mp p).symm
  | x :: xs, [], p, _, _ => absurd p.length_eq (by simp)
  | x :: xs, y :: ys, p, h1, h2 => by
    rw [List.pairwise_cons] at h1 h2
    have hx : x ∈ y :: ys := p.mem_iff.mp (by simp)
    have hy : y ∈ x :: xs := p.mem_iff.mpr (by simp)
    have e : x = y := by
      rcases List.mem_cons.mp hx with a | a
      · exact a
      · rcases List.mem_cons.mp hy with b | b
        · exact b.symm
        · have := h1.1 y b
          have := h2.1 x a
          omega
    subst e
    rw [perm_sorted (List.Perm.cons_inv p) h1.2 h2.2]
section
variable {K : PySem.W.Frag} {J : It} {g : TG} {tt : TT} {te : TE} {vs : List Nat} {σ : L2.St} {H1 : Hp} {D : Addr} {Qd : Hp → Prop} {β : Type} {l : List β}
/-- a comprehension over anything that yields the items of l, each in what has only grown -/
theorem lcG (hD : H1 D = none) (hz : l.length < sizeLine) (f : β → Option V) (hgo : ∀ i H, i < l.length → Same H1 H → J.go i H) (hst : ∀ H, Same H1 H → J.stop l.length H)
    (hs : ∀ i b x H H', l[i]? = some b → Same H1 H → J.yld i H x H' → Same H H' ∧ ∀ R : Bool → V → Hp → Prop, (f b = none → ∀ H2, Same H' H2 → R false .non H2) → (∀ y, f b = some y → ∀ H2, Same H' H2 → R true y H2) →
      g x (wipe σ vs) H' fun σ2 H2 => wipe σ2 vs = wipe σ vs ∧ tt σ2 H2 fun c H3 => if c = true then te σ2 H3 (R true) else R false .non H3)
    (hd : ∀ H', Same H1 H' → H' D = some (.lst (l.filterMap f)) → Qd H') :
    ∃ W : Nat → Nat → Hp → Prop, (∃ m, W 0 m (upd H1 D (.lst []))) ∧ ∀ i m H, W i m H →
      (J.stop i H ∧ Qd H) ∨ (J.go i H ∧ ∃ Nx : Hp → Prop, (∀ H', Nx H' → ∃ m', m' < m ∧ W (i + 1) m' H') ∧ ∀ x H', J.yld i H x H' → g x (wipe σ vs) H' fun σ2 H2 => wipe σ2 vs = wipe σ vs ∧ tt σ2 H2 fun b H3 =>
        if b = true then te σ2 H3 fun y H4 => ∃ acc, H4 D = some (.lst acc) ∧ acc.length < sizeLine ∧ Nx (upd H4 D (.lst (acc ++ [y]))) else Nx H3) := by
  refine ⟨fun i m H => m = l.length - i ∧ i ≤ l.length ∧ FmP l f H1 D i H, ⟨l.length, by simp, Nat.zero_le _, same_new hD, by simpa using upd_same⟩, ?_⟩
  rintro i m H ⟨rfl, hi, p⟩
  by_cases hlt : i < l.length
  · refine .inr ⟨hgo i H hlt p.1, FmP l f H1 D (i + 1), fun H' p' => ⟨l.length - (i + 1), by omega, rfl, hlt, p'⟩, fun x H' y => ?_⟩
    have hb : l[i]? = some l[i] := List.getElem?_eq_getElem hlt
    obtain ⟨s1, h2⟩ := hs i _ x H H' hb p.1 y
    exact fm_step hD hz hb ⟨p.1.trans s1, s1 _ _ p.2⟩ h2
  · have e : i = l.length := by omega
    subst e
    refine .inl ⟨hst H p.1, hd H p.1 ?_⟩
    have := p.2
    rwa [List.take_length] at this
end
section
variable {P : Program} {w : World} {K : PySem.W.Frag} {mg : Str → Option Value} {base : Heap}
theorem kTup_tup : PySem.W.kitOne K (.type "tuple") (.type "tuple") = some true := kit_ty (by decide +kernel)
theorem kDict_dict : PySem.W.kitOne K (.type "dict") (.type "dict") = some true := kit_ty (by decide +kernel)
theorem ty_tup {H : Hp} {a : Addr} {xs : List V} (h : SqT K H a xs) : TyX K H (.ref a) (.type "tuple") := by
  rcases h with (h | ⟨o, h⟩) | ⟨o, _, _, h, c, _⟩
  · exact .base (.tup h)
  · exact .fTuple h
  · exact .kTuple h c
theorem isNum_t {n : Nat} {k : Int} {b : Nat} (e : k = (b : Int)) (h : n ≤ b) : isNum (iv n) 0 k = true := isNum_nat (by omega)
theorem fm_all {α : Type} : ∀ l : List α, (l.filterMap fun _ => some (V.bl true)) = (l.map fun _ => true).map V.bl
  | [] => rfl
  | _ :: l => by rw [List.filterMap_cons, fm_all l]; rfl
theorem all_true {α : Type} : ∀ l : List α, (l.map fun _ => true).all id = true
  | [] => rfl
  | _ :: l => by rw [List.map_cons, List.all_cons, all_true l]; rfl
/-! ### are_classes -/
def spCls (K : PySem.W.Frag) : Sp := fun vs H Q _ => ∃ c cl, vs = [.ref c] ∧ TI K H c cl ∧ 1 ≤ cl.length ∧ cl.length ≤ 6 ∧ (∀ x ∈ cl, x ≤ 2) ∧ ∀ H', Same H H' → Q (.bl true) H'
theorem k_acls (T : Tx K mg) : Cal P w K mg base 2 "are_classes" (spCls K) [] := by
  obtain ⟨fd, F⟩ := T.F_are_classes
  obtain ⟨t1, m1⟩ := T.i_MOST_SIGNS
  obtain ⟨t2, m2⟩ := T.i_MOST_CLASS
  refine calOf F (bare_classes F) T.g_are_classes scare_classes (fun vs H Q E h => ?_) (fun cdv A outer s H vs Q E hr h => ?_)
  · obtain ⟨c, cl, rfl, _⟩ := h
    rfl
  · obtain ⟨c, cl, rfl, hc, l1, l6, h2, q⟩ := h
    refine ⟨_, pss_cons (ps_if (PW.pt (pw_or (pt_not (pt_val (pe_callB call_isi rfl T.n_isinstance (by decide +kernel) (pa_cons (pv 0) (pa_cons (pe_bltn (v := .ty "tuple") rfl T.n_tuple (by decide +kernel) rfl) pa_nil)))))
          (pw_or1 (pt_not (pt_chain op_le op_le pe_int (pe_callB call_len_seq rfl T.n_len PySem.boot_len (pa_cons (pv 0) pa_nil)) (pe_glob (v := .int 6) rfl m1 ⟨_, rfl⟩))))))
        (pss_one ps_never) pss_nil)
      (pss_one (ps_ret (pe_callB (cr_all rfl) rfl T.n_all boot_all_ (pa_cons (pe_lc (own := [("one", 1)]) (g := gName 1) (tt := tYes) (te := tCall spNum [] C8.E0 (tCons (tVar 1) (tCons (tC (.int 0)) (tCons (tC (.int 2)) tNil)))) rfl scare_classes.nd (pi_tup (pv 0))
          (blkOk_by (own := [("one", 1)]) (N := ["thing", "one"]) (sc := defScope sare_classes) (by decide +kernel)) (fun _ _ _ _ _ => pg_name (i := 1) scare_classes.nd rfl (Or.inl rfl)) (fun _ _ _ _ _ => pts_nil)
          (fun _ _ _ _ _ => pe_c (k_is_number T) hr (by decide) rfl (pa_cons (pv 1) (pa_cons pe_int (pa_cons (pe_glob (v := .int 2) rfl m2 ⟨_, rfl⟩) pa_nil))))) pa_nil)))), ?_⟩
    refine ⟨_, rfl, _, _, _, _, _, rfl, .ty "tuple", ty_tup hc, kTup_tup, _, rfl, iteF ?_⟩
    refine ⟨_, rfl, c, _, rfl, .inr hc, _, _, rfl, rfl, _, rfl, ?_⟩
    rw [List.length_map, show decide ((1 : Int) ≤ ((cl.length : Nat) : Int)) = true from decide_eq_true (by omega)]
    refine iteT ⟨_, _, rfl, rfl, _, rfl, ?_⟩
    rw [show decide (((cl.length : Nat) : Int) ≤ (6 : Int)) = true from decide_eq_true (by omega)]
    refine iteF ?_
    refine ⟨_, rfl, c, rfl, ⟨_, hc⟩, fun D hD => ?_⟩
    refine lcT (l := cl) (Rl := fun v y => v = iv y) hc (paired_map fun y _ => rfl) hD (line_lt (by omega)) (fun _ => some (.bl true)) (fun v y H2 hy ev sm R hN hS => ?_) (fun H2 sm hL => ?_)
    · subst ev
      refine ⟨rfl, yes_ok ⟨_, rfl, iv y, 0, 2, rfl, sim_i _, ?_⟩⟩
      rw [show isNum (iv y) 0 2 = true from isNum_nat (by have := h2 y hy; omega)]
      exact hS _ rfl _ (Same.refl _)
    · rw [fm_all] at hL
      refine ⟨D, _, rfl, sqL hL, ?_⟩
      rw [all_true]
      exact q _ sm
/-! ### are_two -/
def spTwo (K : PySem.W.Frag) : Sp := fun vs H Q _ => ∃ c cl s t a b, vs = [.ref c, iv s, .ref t] ∧ TI K H c cl ∧ s < cl.length ∧ SqT K H t [iv a, iv b] ∧ a < s ∧ b < s ∧ cl.getD s 0 = 0 ∧ cl.getD a 0 = 0 ∧ ∀ H', Same H H' → Q (.bl true) H'
theorem k_atwo (T : Tx K mg) : Cal P w K mg base 2 "are_two" (spTwo K) [] := by
  obtain ⟨fd, F⟩ := T.F_are_two
  refine calOf F (bare_two F) T.g_are_two scare_two (fun vs H Q E h => ?_) (fun cdv A outer s H vs Q E hr h => ?_)
  · obtain ⟨c, cl, sg, t, a, b, rfl, _⟩ := h
    rfl
  · obtain ⟨c, cl, sg, t, a, b, rfl, hc, hs, ht, ha, hb, z1, z2, q⟩ := h
    refine ⟨_, pss_cons (ps_if (PW.pt (pw_or (pt_not (pt_val (pe_callB call_isi rfl T.n_isinstance (by decide +kernel) (pa_cons (pv 2) (pa_cons (pe_bltn (v := .ty "tuple") rfl T.n_tuple (by decide +kernel) rfl) pa_nil)))))
          (pw_or (pt_cmpR op_ne (pe_callB call_len_seq rfl T.n_len PySem.boot_len (pa_cons (pv 2) pa_nil)) pe_int (nomark _))
          (pw_or1 (pt_not (pt_val (pe_callB (cr_all rfl) rfl T.n_all boot_all_ (pa_cons (pe_lc (own := [("one", 3)]) (g := gName 3) (tt := tYes) (te := tCall spNum [] C8.E0 (tCons (tVar 3) (tCons (tC (.int 0)) (tCons (tOp (rI0 fun i j => .int (i - j)) (tVar 1) (tC (.int 1))) tNil)))) rfl scare_two.nd (pi_tup (pv 2))
            (blkOk_by (own := [("one", 3)]) (N := ["classes", "sign", "thing", "one"]) (sc := defScope sare_two) (by decide +kernel)) (fun _ _ _ _ _ => pg_name (i := 3) scare_two.nd rfl (Or.inl rfl)) (fun _ _ _ _ _ => pts_nil)
            (fun _ _ _ _ _ => pe_c (k_is_number T) hr (by decide) rfl (pa_cons (pv 3) (pa_cons pe_int (pa_cons (pe_op op_sub (pv 1) pe_int) pa_nil))))) pa_nil))))))))
        (pss_one ps_never) pss_nil)
      (pss_one (ps_ret (pe_and (pe_cmpR op_eq (pe_ix ix_tup (pv 0) (pv 1) (fun _ _ => rfl)) pe_int (nomark _)) (pe_one (pe_cmpR op_eq (pe_ix ix_tup (pv 0) (pe_ix ix_tup (pv 2) pe_int (fun _ _ => rfl)) (fun _ _ => rfl)) pe_int (nomark _)))))), ?_⟩
    have clg : ∀ {i : Nat}, i < cl.length → (cl.map iv)[i]? = some (iv (cl.getD i 0)) := fun {i} h => by rw [List.getElem?_map, getD_at h]; rfl
    refine ⟨_, rfl, _, _, _, _, _, rfl, .ty "tuple", ty_tup ht, kTup_tup, _, rfl, iteF ?_⟩
    refine ⟨_, rfl, t, _, rfl, .inr ht, rfl, _, rfl, iteF ?_⟩
    refine ⟨_, rfl, t, rfl, ⟨_, ht⟩, fun D hD => ?_⟩
    refine lcT (xs := [iv a, iv b]) (l := [a, b]) (Rl := fun v y => v = iv y) ht (.cons rfl (.cons rfl .nil)) hD (line_lt (by simp)) (fun _ => some (.bl true)) (fun v y H2 hy ev sm R hN hS => ?_) (fun H2 sm hL => ?_)
    · subst ev
      refine ⟨rfl, yes_ok ⟨_, rfl, _, rfl, _, (1 : Int), rfl, rfl, iv y, 0, (sg : Int) - 1, rfl, sim_i _, ?_⟩⟩
      rw [isNum_nat (n := y) (k := (sg : Int) - 1) (by simp only [List.mem_cons, List.not_mem_nil, or_false] at hy; rcases hy with rfl | rfl <;> omega)]
      exact hS _ rfl _ (Same.refl _)
    · rw [fm_all] at hL
      refine ⟨D, _, rfl, sqL hL, ?_⟩
      rw [all_true]
      refine ⟨_, rfl, iteF ?_⟩
      refine ⟨_, rfl, _, rfl, c, _, (sg : Int), _, rfl, rfl, same_t sm hc, atI_nat (clg hs), rfl, _, rfl, ?_⟩
      rw [z1]
      refine iteT ?_
      refine ⟨_, rfl, _, rfl, t, _, 0, _, rfl, rfl, same_t sm ht, rfl, c, _, (a : Int), _, rfl, rfl, same_t sm hc, atI_nat (clg (by omega)), rfl, ?_⟩
      rw [z2]
      exact q _ sm
/-! ### are_parts -/
theorem kvP_len : ∀ {ts : List Addr} {pa : List (Nat × Nat × Nat)}, ts.length = pa.length → (kvP ts pa).length = pa.length
  | [], [], _ => rfl
  | [], _ :: _, h => by cases h
  | _ :: _, [], h => by cases h
  | t :: ts, q :: pa, h => by
    show (kvP ts pa).length + 1 = _
    rw [kvP_len (by simpa using h), List.length_cons]
theorem kvP_get : ∀ {ts : List Addr} {pa : List (Nat × Nat × Nat)} {i : Nat} {q : Nat × Nat × Nat} {kv : Key × V}, (kvP ts pa)[i]? = some kv → pa[i]? = some q → ∃ t, ts[i]? = some t ∧ kv = (Sum.inl (q.1 : Int), V.ref t)
  | [], [], _, _, _, _, h => by simp at h
  | [], _ :: _, _, _, _, h, _ => by simp [kvP] at h
  | _ :: _, [], _, _, _, _, h => by simp at h
  | t :: ts, q0 :: pa, 0, q, kv, h, h2 => by
    have e1 : q0 = q := by simpa using h2
    have e2 : (Sum.inl (q0.1 : Int), V.ref t) = kv := by
      have h : some (Sum.inl (q0.1 : Int), V.ref t) = some kv := h
      exact Option.some.inj h
    exact ⟨t, rfl, by rw [← e2, e1]⟩
  | t :: ts, q0 :: pa, i + 1, q, kv, h, h2 => by
    have h : (kvP ts pa)[i]? = some kv := h
    obtain ⟨t', e, f⟩ := kvP_get h (by simpa using h2)
    exact ⟨t', by simpa using e, f⟩
theorem dk_nf {Fx : List Addr} {p : Addr} {kvs : List (Key × V)} (h : p ∉ Fx) : ¬ Fxd Fx p (.dK kvs) := not_fxd h (fun _ => by simp) (fun _ _ => by simp)
theorem unlock {H H' : Hp} {D : Addr} {u : HO} {od : Obj} (h : H D = some u) (s : Same (upd H D (.frz od u)) H') : Same H (upd H' D u) := fun a o e => by
  by_cases z : a = D
  · subst z
    rw [h] at e
    rw [← Option.some.inj e]
    exact upd_same
  · rw [upd_ne z]
    exact s a o ((upd_ne z).trans e)
def twK (q : Nat × Nat) : List Key := [Sum.inl (q.1 : Int), Sum.inl (q.2 : Int)]
theorem twK_inj {p q : Nat × Nat} (h : twK p = twK q) : p = q := by
  unfold twK at h
  injection h with h1 h2
  injection h2 with h2 _
  injection h1 with h1
  injection h2 with h2
  obtain ⟨a, b⟩ := p
  obtain ⟨c, d⟩ := q
  have h1 : (a : Int) = (c : Int) := h1
  have h2 : (b : Int) = (d : Int) := h2
  have e1 : a = c := by omega
  have e2 : b = d := by omega
  rw [e1, e2]
theorem val_tw {x : Nat × Nat} : ∀ {l : List (Nat × Nat × Nat)}, x ∉ l.map (·.2) → valV (l.map fun q => (twK q.2, V.bl true)) (twK x) = none
  | [], _ => rfl
  | q :: l, h => by
    rw [List.map_cons, List.mem_cons, not_or] at h
    rw [List.map_cons, valV_neg (fun z => h.1 (twK_inj z).symm)]
    exact val_tw h.2
def spParts (K : PySem.W.Frag) : Sp := fun vs H Q _ => ∃ c D cl ts pa, vs = [.ref c, .ref D] ∧ TI K H c cl ∧ H D = some (.dK (kvP ts pa)) ∧ ts.length = pa.length ∧ Paired (TwoR H) ts pa ∧ cl.length ≤ 6 ∧ pa.length ≤ 6 ∧
  (∀ p ∈ pa, p.1 < cl.length ∧ p.2.1 < p.1 ∧ p.2.2 < p.1 ∧ cl.getD p.1 0 = 0 ∧ cl.getD p.2.1 0 = 0) ∧ (pa.map (·.2)).Nodup ∧ ∀ H', Same H H' → Q (.bl true) H'
theorem k_aparts (T : Tx K mg) : Cal P w K mg base 3 "are_parts" (spParts K) [] := by
  obtain ⟨fd, F⟩ := T.F_are_parts
  refine calOf F (bare_parts F) T.g_are_parts scare_parts (fun vs H Q E h => ?_) (fun cdv A outer s H vs Q E hr h => ?_)
  · obtain ⟨c, D, cl, ts, pa, rfl, _⟩ := h
    rfl
  · obtain ⟨c, D, cl, ts, pa, rfl, hc, hD, hl, hT, c6, p6, hp, nd, q⟩ := h
    have hu : (A.deeper (envOfC "are_parts" (defScope sare_parts) s.heap.objs.size (He.ga K "are_parts") cdv)).units < cLine := by have := hr.un; omega
    refine ⟨_, pss_cons (ps_if (PW.pt (pw_or (pt_not (pt_val (pe_callB call_isi rfl T.n_isinstance (by decide +kernel) (pa_cons (pv 1) (pa_cons (pe_bltn (v := .ty "dict") rfl T.n_dict (by decide +kernel) rfl) pa_nil)))))
          (pw_or1 (pt_not (pt_val (pe_callB (cr_all rfl) rfl T.n_all boot_all_ (pa_cons (pe_lock (pe_lc (own := [("sign", 2)]) (g := gName 2) (tt := tYes) (te := tCall spNum [] C8.E0 (tCons (tVar 2) (tCons (tC (.int 0)) (tCons (tOp (rI0 fun i j => .int (i - j)) (tCB (fun xs H Q => ∃ p ys, xs = [V.ref p] ∧ (SqL K H p ys ∨ SqT K H p ys) ∧ Q (.int ys.length) H) (tCons (tVar 0) tNil)) (tC (.int 1))) tNil)))) rfl scare_parts.nd (pi_keys (pv 1))
            (blkOk_by (own := [("sign", 2)]) (N := ["classes", "thing", "sign", "two"]) (sc := defScope sare_parts) (by decide +kernel)) (fun _ _ _ _ _ => pg_name (i := 2) scare_parts.nd rfl (Or.inl rfl)) (fun _ _ _ _ _ => pts_nil)
            (fun _ _ _ _ _ => pe_c (k_is_number T) hr (by decide) rfl (pa_cons (pv 2) (pa_cons pe_int (pa_cons (pe_op op_sub (pe_callB call_len_seq rfl T.n_len PySem.boot_len (pa_cons (pv 0) pa_nil)) pe_int) pa_nil)))))) pa_nil)))))))
        (pss_one ps_never) pss_nil)
      (pss_cons (ps_if (pt_not (pt_val (pe_callB (cr_all rfl) rfl T.n_all boot_all_ (pa_cons (pe_lock (pe_lc (own := [("sign", 2), ("two", 3)]) (g := gTup K 2 (gCons (gName 2) (gCons (gName 3) gNil))) (tt := tYes) (te := tCall (spTwo K) [] C8.E0 (tCons (tVar 0) (tCons (tVar 2) (tCons (tVar 3) tNil)))) rfl scare_parts.nd (pi_items (pv 1))
            (blkOk_by (own := [("sign", 2), ("two", 3)]) (N := ["classes", "thing", "sign", "two"]) (sc := defScope sare_parts) (by decide +kernel)) (fun _ _ _ _ _ => pg_tup rfl (pgs_cons (pg_name (i := 2) scare_parts.nd rfl (Or.inl rfl)) (pgs_cons (pg_name (i := 3) scare_parts.nd rfl (Or.inl rfl)) pgs_nil))) (fun _ _ _ _ _ => pts_nil)
            (fun _ _ _ _ _ => pe_c (k_atwo T) hr (by decide) rfl (pa_cons (pv 0) (pa_cons (pv 2) (pa_cons (pv 3) pa_nil)))))) pa_nil))))
        (pss_one ps_never) pss_nil)
      (pss_one (ps_ret (pe_cmpR op_eq (pe_callB call_len_dT rfl T.n_len PySem.boot_len (pa_cons (pe_lock (pe_dcT (own := [("two", 3)]) (g := gName 3) (tk := tVar 3) (tv := tC (.bl true)) rfl hu scare_parts.nd (pi_values (pv 1))
            (blkOk_by (own := [("two", 3)]) (N := ["classes", "thing", "sign", "two"]) (sc := defScope sare_parts) (by decide +kernel)) (fun _ _ _ _ _ => pg_name (i := 3) scare_parts.nd rfl (Or.inl rfl)) (fun _ _ _ _ _ => pv 3) (fun _ _ _ _ _ => pe_bl))) pa_nil))
          (pe_callB L2.call_lenD rfl T.n_len PySem.boot_len (pa_cons (pv 1) pa_nil)) (nomark _))))), ?_⟩
    have hkl := kvP_len hl
    refine ⟨_, rfl, _, _, _, _, _, rfl, .ty "dict", .base (.dK hD), kDict_dict, _, rfl, iteF ?_⟩
    refine ⟨D, _, hD, trivial, fun od => ?_⟩
    have dd1 : upd H D (.frz od (.dK (kvP ts pa))) D = some (.frz od (.dK (kvP ts pa))) := upd_same
    have i1 : Imm [] H (upd H D (.frz od (.dK (kvP ts pa)))) := imm1 (keep_upd Keep.refl) hD (dk_nf (by simp))
    refine ⟨_, rfl, D, od, rfl, .inl ⟨_, upd_same, fun L hL => ?_⟩⟩
    refine lcG (l := pa) hL (line_lt (by omega)) (fun _ => some (.bl true)) (fun i G hi sm => ⟨sm _ _ dd1, by rw [hkl]; exact hi⟩) (fun G sm => ⟨sm _ _ dd1, by rw [hkl]; exact Nat.le_refl _⟩) (fun i b x G G' hb sm y => ?_) (fun G sm hLL => ?_)
    · obtain ⟨rfl, k, v, e, rfl⟩ := y
      obtain ⟨t, e1, e2⟩ := kvP_get e hb
      injection e2 with e2 e3
      subst e2
      refine ⟨Same.refl _, fun R hN hS => ⟨rfl, yes_ok ?_⟩⟩
      refine ⟨_, rfl, _, rfl, c, _, rfl, .inr (same_t sm (i1.t hc)), _, (1 : Int), rfl, rfl, iv b.1, 0, _, rfl, sim_i _, ?_⟩
      rw [isNum_nat (n := b.1) (by rw [List.length_map]; have := (hp b (List.mem_of_getElem? hb)).1; omega)]
      exact hS _ rfl _ (Same.refl _)
    · rw [fm_all] at hLL
      have nLD : L ≠ D := (ne_of_none dd1 hL).symm
      have s1 := unlock hD sm
      refine ⟨sm _ _ dd1, L, _, rfl, sqL ((upd_ne nLD).trans hLL), ?_⟩
      rw [all_true]
      refine ⟨_, rfl, iteF ?_⟩
      have hD2 := s1 _ _ hD
      have hc2 := same_t s1 hc
      have hT2 : Paired (TwoR (upd G D (.dK (kvP ts pa)))) ts pa := paired_imp hT fun _ _ z => z.same (Imm.of s1)
      generalize upd G D (.dK (kvP ts pa)) = H2 at s1 hD2 hc2 hT2 ⊢
      refine ⟨D, _, hD2, trivial, fun od2 => ?_⟩
      have dd2 : upd H2 D (.frz od2 (.dK (kvP ts pa))) D = some (.frz od2 (.dK (kvP ts pa))) := upd_same
      have i2 : Imm [] H2 (upd H2 D (.frz od2 (.dK (kvP ts pa)))) := imm1 (keep_upd Keep.refl) hD2 (dk_nf (by simp))
      refine ⟨_, rfl, D, od2, _, rfl, upd_same, fun L2 hL2 => ?_⟩
      refine lcG (l := pa) hL2 (line_lt (by omega)) (fun _ => some (.bl true)) (fun i G hi sm => ⟨sm _ _ dd2, by rw [hkl]; exact hi⟩) (fun G sm => ⟨sm _ _ dd2, by rw [hkl]; exact Nat.le_refl _⟩) (fun i b x G G' hb sm y => ?_) (fun G2 sm2 hLL2 => ?_)
      · obtain ⟨T', k, v, e, rfl, hT', rfl⟩ := y
        obtain ⟨t, e1, e2⟩ := kvP_get e hb
        injection e2 with e2 e3
        subst e2 e3
        have s3 := same_new (o := .tup [kV (Sum.inl (b.1 : Int)), .ref t]) hT'
        obtain ⟨b', hb', tw⟩ := paired_at hT2 e1
        rw [hb] at hb'
        have hb' := Option.some.inj hb'
        subst hb'
        obtain ⟨q1, q2, q3, q4, q5⟩ := hp b (List.mem_of_getElem? hb)
        refine ⟨s3, fun R hN hS => ⟨T', _, rfl, new_t, rfl, _, _, rfl, _, _, rfl, rfl, rfl, yes_ok ?_⟩⟩
        exact ⟨_, rfl, _, rfl, _, rfl, c, cl, b.1, t, b.2.1, b.2.2, rfl, same_t (sm.trans s3) (i2.t hc2), q1, tupT ((sm.trans s3) _ _ (i2.tup tw)), q2, q3, q4, q5, fun H' s' => hS _ rfl _ s'⟩
      · rw [fm_all] at hLL2
        have nLD2 : L2 ≠ D := (ne_of_none dd2 hL2).symm
        have s2 := unlock hD2 sm2
        refine ⟨sm2 _ _ dd2, L2, _, rfl, sqL ((upd_ne nLD2).trans hLL2), ?_⟩
        rw [all_true]
        refine ⟨_, rfl, iteF ?_⟩
        have hD3 := s2 _ _ hD2
        have hT3 : Paired (TwoR (upd G2 D (.dK (kvP ts pa)))) ts pa := paired_imp hT2 fun _ _ z => z.same (Imm.of s2)
        have s12 := s1.trans s2
        generalize upd G2 D (.dK (kvP ts pa)) = H3 at s12 hD3 hT3 ⊢
        refine ⟨D, _, hD3, trivial, fun od3 => ?_⟩
        have dd3 : upd H3 D (.frz od3 (.dK (kvP ts pa))) D = some (.frz od3 (.dK (kvP ts pa))) := upd_same
        have i3 : Imm [] H3 (upd H3 D (.frz od3 (.dK (kvP ts pa)))) := imm1 (keep_upd Keep.refl) hD3 (dk_nf (by simp))
        refine ⟨_, rfl, D, od3, _, rfl, upd_same, fun dk hdk => ?_⟩
        let HL := upd H3 D (.frz od3 (.dK (kvP ts pa)))
        let Pv : Nat → Hp → Prop := fun i G => Same HL G ∧ G dk = some (.dT ((pa.take i).map fun q => (twK q.2, V.bl true)))
        refine ⟨fun i m G => m = pa.length - i ∧ i ≤ pa.length ∧ Pv i G, ⟨pa.length, by simp, Nat.zero_le _, same_new hdk, by simpa using upd_same⟩, ?_⟩
        rintro i mm G ⟨rfl, hi, sm, hG⟩
        by_cases hlt : i < pa.length
        · refine .inr ⟨⟨sm _ _ dd3, by rw [hkl]; exact hlt⟩, Pv (i + 1), fun G' p' => ⟨pa.length - (i + 1), by omega, rfl, hlt, p'⟩, fun x G' y => ?_⟩
          obtain ⟨rfl, k, e⟩ := y
          have hb : pa[i]? = some pa[i] := List.getElem?_eq_getElem hlt
          generalize pa[i] = b at hb
          obtain ⟨t, e1, e2⟩ := kvP_get e hb
          injection e2 with e2 e3
          subst e2 e3
          obtain ⟨b', hb', tw⟩ := paired_at hT3 e1
          rw [hb] at hb'
          have hb' := Option.some.inj hb'
          subst hb'
          refine ⟨rfl, _, rfl, _, twK b.2, t, rfl, hG, sm _ _ (i3.tup tw), line_lt (by rw [List.length_map, List.length_take]; omega), fun a o e => ?_, ?_⟩
          · rw [upd_ne (ne_of_none e hdk)]
            exact sm a o e
          · have nv : valV ((pa.take i).map fun q => (twK q.2, V.bl true)) (twK b.2) = none := val_tw (fun z => by
              have nd' := nd
              rw [(cut_at hb).1, List.map_append, List.nodup_append] at nd'
              exact nd'.2.2 _ z b.2 (by simp) rfl)
            rw [putK_new _ nv, (cut_at hb).2, List.map_append]
            exact upd_same
        · have e : i = pa.length := by omega
          subst e
          refine .inl ⟨⟨sm _ _ dd3, by rw [hkl]; exact Nat.le_refl _⟩, ?_⟩
          have nd3 : dk ≠ D := (ne_of_none dd3 hdk).symm
          have s3 := unlock hD3 sm
          rw [List.take_length] at hG
          refine ⟨sm _ _ dd3, dk, _, rfl, (upd_ne nd3).trans hG, _, rfl, D, _, rfl, s3 _ _ hD3, rfl, ?_⟩
          rw [hkl, List.length_map, decide_eq_true rfl]
          exact q _ (s12.trans s3)
end
end Des
end T_D15
section T_D21
set_option linter.all false
set_option maxRecDepth 100000
set_option maxHeartbeats 600000
namespace Des
open PySem PySem.Spec PyProof.Rows L2
open C8 (Cal Met Mak pe_c pe_mk pe_mt pe_mt0)
open StX (pa_star)
open RZ
section
variable {P : Program} {w : World} {K : PySem.W.Frag} {mg : Str → Option Value} {base : Heap}
theorem kv_some {ts : List Addr} {pa : List (Nat × Nat × Nat)} (hl : ts.length = pa.length) {s : Nat} (h : s ∈ pa.map (·.1)) : ∃ v, valV (kvP ts pa) (Sum.inl (s : Int)) = some v := by
  rcases valV_kvP ts pa s hl with ⟨z, _⟩ | ⟨i, q, t, _, _, _, _, e⟩
  · exact absurd h (look_none z)
  · exact ⟨_, e⟩
theorem slA_sufG {H : Hp} {a : Addr} {xs : List V} {n : Nat} {Q : VK} (h : SqT K H a xs) (q : ∀ p H', Same H H' → SqT K H' p (xs.drop n) → Q (.ref p) H') : rSlA K (.ref a) (some (n : Int)) none H Q := by
  by_cases c : n ≤ xs.length
  · exact slA_suf h c q
  · have e1 : HT.sIx xs.length 0 (some (n : Int)) = xs.length := by rw [HT.sIx_nat]; omega
    have e2 : xs.drop n = [] := List.drop_eq_nil_of_le (by omega)
    refine ⟨a, xs, rfl, h, fun e => ?_, fun _ p hp => q p _ (same_new hp) ?_⟩
    · have e3 := e.1
      rw [e1] at e3
      have e4 : xs = [] := List.length_eq_zero_iff.mp e3
      refine q a H (Same.refl _) ?_
      rw [e2, ← e4]
      exact h
    · have : cutV xs (some (n : Int)) none = [] := by
        unfold cutV
        rw [e1, List.drop_length, List.take_nil]
      rw [this, e2]
      exact .inl (.inl upd_same)
theorem asc_next {sh : List Nat} (h : sh.Pairwise (· < ·)) : ∀ {i : Nat} {x y : Nat}, sh[i]? = some x → (sh.drop 1)[i]? = some y → x < y := fun {i x y} h1 h2 => by
  rw [List.getElem?_drop] at h2
  obtain ⟨hi, e1⟩ := List.getElem?_eq_some_iff.mp h1
  obtain ⟨hj, e2⟩ := List.getElem?_eq_some_iff.mp h2
  rw [← e1, ← e2]
  exact List.pairwise_iff_getElem.mp h i (1 + i) hi hj (by omega)
/-! ### are_closed -/
def spClo (K : PySem.W.Frag) : Sp := fun vs H Q _ => ∃ D s ts pa sh, vs = [.ref D, .ref s] ∧ H D = some (.dK (kvP ts pa)) ∧ ts.length = pa.length ∧ TI K H s sh ∧ sh.Pairwise (· < ·) ∧ (∀ x ∈ sh, x ∈ pa.map (·.1)) ∧ (∀ p ∈ pa, p.1 < 6) ∧ sh.length ≤ 10 ∧ ∀ H', Same H H' → Q (.bl true) H'
theorem k_aclo (T : Tx K mg) : Cal P w K mg base 2 "are_closed" (spClo K) [] := by
  obtain ⟨fd, F⟩ := T.F_are_closed
  obtain ⟨t1, m1⟩ := T.i_MOST_SIGNS
  refine calOf F (bare_closed F) T.g_are_closed scare_closed (fun vs H Q E h => ?_) (fun cdv A outer s H vs Q E hr h => ?_)
  · obtain ⟨D, s, ts, pa, sh, rfl, _⟩ := h
    rfl
  · obtain ⟨D, sa, ts, pa, sh, rfl, hD, hl, hs, asc, sub, p6, l10, q⟩ := h
    have hu := hu_of hr
    refine ⟨_, pss_cons (ps_if (PW.pt (pw_or (pt_not (pt_val (pe_callB call_isi rfl T.n_isinstance (by decide +kernel) (pa_cons (pv 1) (pa_cons (pe_bltn (v := .ty "tuple") rfl T.n_tuple (by decide +kernel) rfl) pa_nil)))))
          (pw_or1 (pt_not (pt_val (pe_callB (cr_all rfl) rfl T.n_all boot_all_ (pa_cons (pe_lc (own := [("sign", 4)]) (g := gName 4) (tt := tYes) (te := tAndV (tCall spNum [] C8.E0 (tCons (tVar 4) (tCons (tC (.int 0)) (tCons (tC (.int 6)) tNil)))) (tDIn (tVar 4) (tVar 0))) rfl scare_closed.nd (pi_tup (pv 1))
            (blkOk_by (own := [("sign", 4)]) (N := ["parts", "thing", "one", "other", "sign"]) (sc := defScope sare_closed) (by decide +kernel)) (fun _ _ _ _ _ => pg_name (i := 4) scare_closed.nd rfl (Or.inl rfl)) (fun _ _ _ _ _ => pts_nil)
            (fun _ _ _ _ _ => pe_and (pe_c (k_is_number T) hr (by decide) rfl (pa_cons (pv 4) (pa_cons pe_int (pa_cons (pe_glob (v := .int 6) rfl m1 ⟨_, rfl⟩) pa_nil)))) (pe_one (pe_cmp (pc_din hu (pv 4) (pv 0)) rfl)))) pa_nil)))))))
        (pss_one ps_never) pss_nil)
      (pss_one (ps_ret (pe_callB (cr_all rfl) rfl T.n_all boot_all_ (pa_cons (pe_lc (own := [("one", 2), ("other", 3)]) (g := gTup K 2 (gCons (gName 2) (gCons (gName 3) gNil))) (tt := tYes) (te := tOp (rI0 fun i j => .bl (decide (i < j))) (tVar 2) (tVar 3)) rfl scare_closed.nd
            (pi_zipA (by rfl) T.n_zip (pa_cons (pv 1) (pa_cons (pe_slice sl_tupA (pv 1) (po_some pe_int) po_none) pa_nil)))
            (blkOk_by (own := [("one", 2), ("other", 3)]) (N := ["parts", "thing", "one", "other", "sign"]) (sc := defScope sare_closed) (by decide +kernel)) (fun _ _ _ _ _ => pg_tup rfl (pgs_cons (pg_name (i := 2) scare_closed.nd rfl (Or.inl rfl)) (pgs_cons (pg_name (i := 3) scare_closed.nd rfl (Or.inl rfl)) pgs_nil))) (fun _ _ _ _ _ => pts_nil)
            (fun _ _ _ _ _ => pe_cmpR op_lt (pv 2) (pv 3) (nomark _))) pa_nil)))), ?_⟩
    refine ⟨_, rfl, _, _, _, _, _, rfl, .ty "tuple", ty_tup hs, kTup_tup, _, rfl, iteF ?_⟩
    refine ⟨_, rfl, sa, rfl, ⟨_, hs⟩, fun L hL => ?_⟩
    refine lcT (l := sh) (Rl := fun v y => v = iv y) hs (paired_map fun y _ => rfl) hL (line_lt (by omega)) (fun _ => some (.bl true)) (fun v y H2 hy ev sm R hN hS => ?_) (fun H2 sm hLL => ?_)
    · subst ev
      refine ⟨rfl, yes_ok ⟨_, rfl, iv y, 0, 6, rfl, sim_i _, ?_⟩⟩
      obtain ⟨p, hp, e⟩ := List.mem_map.mp (sub y hy)
      have hy6 := p6 p hp
      rw [show isNum (iv y) 0 6 = true from isNum_nat (by rw [← e]; omega)]
      obtain ⟨v, ev⟩ := kv_some hl (sub y hy)
      refine ⟨_, rfl, iteT ⟨_, rfl, _, rfl, D, _, rfl, DGet.k (k := Sum.inl (y : Int)) (sm _ _ hD), ?_⟩⟩
      rw [ev]
      exact hS _ rfl _ (Same.refl _)
    · rw [fm_all] at hLL
      refine ⟨L, _, rfl, sqL hLL, ?_⟩
      rw [all_true]
      refine ⟨_, rfl, iteF ?_⟩
      refine ⟨_, rfl, _, rfl, (1 : Int), rfl, ?_⟩
      dsimp only [tNoPart]
      refine slA_sufG (n := 1) (same_t sm hs) fun u H3 s3 hu3 => ?_
      have hs3 := same_t (sm.trans s3) hs
      refine ⟨sa, u, _, _, rfl, .inr ⟨hs3, hu3, fun D2 hD2 => ?_⟩⟩
      rw [← List.map_drop] at hu3
      have len1 : (sh.drop 1).length = sh.length - 1 := by rw [List.length_drop]
      refine lcG (l := sh.drop 1) hD2 (line_lt (by omega)) (fun _ => some (.bl true)) (fun i G hi sm' => ?_) (fun G sm' => ⟨_, _, same_t sm' hs3, same_t sm' hu3, .inr (by rw [List.length_map]; exact Nat.le_refl _)⟩) (fun i b x G G' hb sm' y => ?_) (fun G sm' hG => ?_)
      · exact ⟨_, _, iv (sh[i]'(by omega)), iv ((sh.drop 1)[i]), same_t sm' hs3, same_t sm' hu3, by rw [List.getElem?_map, List.getElem?_eq_getElem (by omega)]; rfl, by rw [List.getElem?_map, List.getElem?_eq_getElem hi]; rfl⟩
      · obtain ⟨T', x1, y1, rfl, hT', rfl, f1, f2⟩ := y
        have g1 := f1 _ (same_t sm' hs3)
        have g2 := f2 _ (same_t sm' hu3)
        obtain ⟨xn, e1, rfl⟩ := map_at g1
        obtain ⟨yn, e2, rfl⟩ := map_at g2
        have lt := asc_next asc e1 e2
        refine ⟨same_new hT', fun R hN hS => ⟨T', _, rfl, new_t, rfl, _, _, rfl, _, _, rfl, rfl, rfl, yes_ok ⟨_, rfl, _, rfl, _, _, rfl, rfl, ?_⟩⟩⟩
        dsimp only
        rw [show decide (((xn : Nat) : Int) < ((yn : Nat) : Int)) = true from decide_eq_true (by omega)]
        exact hS _ rfl _ (Same.refl _)
      · rw [fm_all] at hG
        refine ⟨D2, _, rfl, sqL hG, ?_⟩
        rw [all_true]
        exact q _ ((sm.trans s3).trans sm')
/-! ### Table.__init__ -/
theorem put3 {c r s : Addr} : putF "closed" (.ref s) (putF "rows" (.ref r) (putF "classes" (.ref c) [])) = tF c r s := by
  have e1 : putF "rows" (V.ref r) (putF "classes" (V.ref c) []) = ([("classes", V.ref c), ("rows", V.ref r)] : List (Str × V)) := put2 (by decide +kernel)
  rw [e1]
  exact (putF_on (by decide +kernel)).trans (congrArg (List.cons _) (putF_on (by decide +kernel)))
theorem val_two {ts : List Addr} {pa : List (Nat × Nat × Nat)} {H : Hp} (hl : ts.length = pa.length) (hT : Paired (TwoR H) ts pa) (asc : pa.Pairwise (fun a b => a.1 < b.1)) {q : Nat × Nat × Nat} (hq : q ∈ pa) :
    ∃ t, valV (kvP ts pa) (Sum.inl (q.1 : Int)) = some (V.ref t) ∧ TwoR H t q := by
  have lk : pa.lookup q.1 = some q.2 := look_of asc hq
  rcases valV_kvP ts pa q.1 hl with ⟨z, _⟩ | ⟨i, q', t, e1, e2, e3, e4, e5⟩
  · rw [z] at lk; cases lk
  · refine ⟨t, e5, ?_⟩
    obtain ⟨b, hb, tw⟩ := paired_at hT e2
    rw [e1] at hb
    have hb := Option.some.inj hb
    subst hb
    rw [lk] at e4
    have e4 := Option.some.inj e4
    unfold TwoR at tw ⊢
    rw [e4]
    exact tw
def spTabI (K : PySem.W.Frag) : Sp := fun vs H Q _ => ∃ x dx c D s ts m, vs = [.ref x, .ref c, .ref D, .ref s] ∧ H x = some (.ins (He.ga K "Table") dx []) ∧ m.Ok ∧ TI K H c m.cl ∧ TI K H s m.sh ∧ H D = some (.dK (kvP ts m.pa)) ∧ ts.length = m.pa.length ∧ Paired (TwoR H) ts m.pa ∧
  ∀ H', Keep [x] H H' → TabAt K H' x m → Q .non H'
theorem ok_tabi (T : Tx K mg) : ∃ fd, FnOk P w K mg base CX0 4 (He.ma K (He.ga K "Table") "__init__") fd ["self", "classes", "parts", "closed"] (spTabI K) ∧ FdTable_init K (He.ma K (He.ga K "Table") "__init__") fd := by
  obtain ⟨fd, F⟩ := T.F_Table_init
  refine ⟨fd, F.ok scTable_init (fun vs H Q E h => ?_) (fun cdv A outer s H vs Q E hr h => ?_), F⟩
  · obtain ⟨x, dx, c, D, s, ts, m, rfl, _⟩ := h
    rfl
  · obtain ⟨x, dx, c, D, sa, ts, m, rfl, hx, ok, hc, hs, hD, hl, hT, q⟩ := h
    have hu := hu_of hr
    refine ⟨_, PSs.nox (pss_cons (ps_if (pt_not (pt_val (pe_c (k_acls T) hr (by decide) rfl (pa_cons (pv 1) pa_nil)))) (pss_one ps_never) pss_nil)
      (pss_cons (ps_if (pt_not (pt_val (pe_c (k_aparts T) hr (by decide) rfl (pa_cons (pv 1) (pa_cons (pv 2) pa_nil))))) (pss_one ps_never) pss_nil)
      (pss_cons (ps_if (pt_not (pt_val (pe_c (k_aclo T) hr (by decide) rfl (pa_cons (pv 2) (pa_cons (pv 3) pa_nil))))) (pss_one ps_never) pss_nil)
      (pss_cons (ps_fld (pv 0) (pv 1) rfl)
      (pss_cons (ps_fld (pv 0) (pe_callTy call_tupleZ rfl T.n_tuple boot_tuple_ (pa_cons (pe_lc (own := [("sign", 4)]) (g := gName 4) (tt := tYes) (te := tTup (tCons (tVar 4) (tCons (tDGet (tVar 2) (tVar 4)) tNil))) rfl scTable_init.nd
          (pi_list (pe_callB (call_sortedDI rfl) rfl T.n_sorted PyProof.Rows.boot_sorted (pa_cons (pv 2) pa_nil))) (blkOk_by (own := [("sign", 4)]) (N := ["self", "classes", "parts", "closed", "sign"]) (sc := defScope sTable_init) (by decide +kernel))
          (fun _ _ _ _ _ => pg_name (i := 4) scTable_init.nd rfl (Or.inl rfl)) (fun _ _ _ _ _ => pts_nil) (fun _ _ _ _ _ => pe_tup (pa_cons (pv 4) (pa_cons (pe_dget hu (pv 2) (pv 4) (fun _ _ => rfl)) pa_nil)))) pa_nil)) rfl)
      (pss_one (ps_fld (pv 0) (pv 3) rfl))))))), ?_⟩
    have cl2 : ∀ z ∈ m.cl, z ≤ 2 := fun z hz => by
      obtain ⟨i, hi, e⟩ := List.mem_iff_getElem.mp hz
      have := ok.c2 i
      unfold Mo.c at this
      rw [List.getD_eq_getElem?_getD, List.getElem?_eq_getElem hi] at this
      rw [← e]
      exact this
    have p6 := pa_len ok
    have pn : ∀ p ∈ m.pa, p.1 < 6 := fun p hp => lt6 ok (ok.par p hp).1
    have sh6 : m.sh.length ≤ 6 := by
      have e : (m.sh.map fun z => (z, ())).length = m.sh.length := List.length_map _
      have a := asc_len (k := 0) (n := 6) (l := m.sh.map fun z => (z, ())) (by rw [List.pairwise_map]; exact ok.shs) (fun p hp => by
        obtain ⟨z, hz, rfl⟩ := List.mem_map.mp hp
        obtain ⟨p', hp', e'⟩ := List.mem_map.mp (ok.shp z hz)
        exact ⟨Nat.zero_le _, by show z < 6; rw [← e']; exact pn p' hp'⟩)
      rw [e] at a
      omega
    refine ⟨_, rfl, c, m.cl, rfl, hc, ok.n1, ok.n6, cl2, fun H1 s1 => ⟨_, rfl, iteF ?_⟩⟩
    refine ⟨_, rfl, _, rfl, c, D, m.cl, ts, m.pa, rfl, same_t s1 hc, s1 _ _ hD, hl, paired_imp hT fun _ _ z => z.same (Imm.of s1), ok.n6, p6, ok.par, ok.dist, fun H2 s2 => ⟨_, rfl, iteF ?_⟩⟩
    have s12 := s1.trans s2
    refine ⟨_, rfl, _, rfl, D, sa, ts, m.pa, m.sh, rfl, s12 _ _ hD, hl, same_t s12 hs, ok.shs, ok.shp, pn, by omega, fun H3 s3 => ⟨_, rfl, iteF ?_⟩⟩
    have s13 := s12.trans s3
    have hx3 := s13 _ _ hx
    refine ⟨_, rfl, _, rfl, x, _, dx, _, rfl, hx3, T.cl_Table, T.na_Table_classes, (by simp), ?_⟩
    have k4 : Keep [x] H3 (upd H3 x (.ins (He.ga K "Table") dx (putF "classes" (.ref c) []))) := keep_upd Keep.refl
    have i4 : Imm [] H3 (upd H3 x (.ins (He.ga K "Table") dx (putF "classes" (.ref c) []))) := imm1 k4 hx3 (ins_nf (by simp))
    have hx4 : upd H3 x (.ins (He.ga K "Table") dx (putF "classes" (.ref c) [])) x = some (.ins (He.ga K "Table") dx (putF "classes" (.ref c) [])) := upd_same
    have nDx : D ≠ x := fun z => by rw [z, hx] at hD; cases hD
    generalize upd H3 x (.ins (He.ga K "Table") dx (putF "classes" (.ref c) [])) = H4 at k4 i4 hx4 ⊢
    have hD4 := k4 _ _ (s13 _ _ hD) (by simpa using nDx)
    have i04 : Imm [] H H4 := (Imm.of s13).trans i4
    have hT4 : Paired (TwoR H4) ts m.pa := paired_imp hT fun _ _ z => z.same i04
    -- the sorted keys
    have keys : (kvP ts m.pa).map (·.1) = (m.pa.map fun q => (q.1 : Int)).map Sum.inl := by rw [kvP_keys hl, List.map_map]; rfl
    have sorted : (m.pa.map fun q => (q.1 : Int)).Pairwise (· ≤ ·) := by
      rw [List.pairwise_map]
      exact ok.asc.imp fun {a b} h => by omega
    refine ⟨_, rfl, D, kvP ts m.pa, (m.pa.map fun q => (q.1 : Int)), rfl, .inl hD4, keys, by rw [List.length_map]; omega, fun ys L perm srt hL => ?_⟩
    have ey : ys = m.pa.map fun q => (q.1 : Int) := perm_sorted perm srt sorted
    subst ey
    have s5 := same_new (o := .lst ((m.pa.map fun q => (q.1 : Int)).map V.int)) hL
    have hL5 : upd H4 L (.lst ((m.pa.map fun q => (q.1 : Int)).map V.int)) L = some (.lst (m.pa.map fun q => iv q.1)) := by rw [upd_same, List.map_map]; rfl
    have hD5 := s5 _ _ hD4
    have hT5 : Paired (TwoR (upd H4 L (.lst ((m.pa.map fun q => (q.1 : Int)).map V.int)))) ts m.pa := paired_imp hT4 fun _ _ z => z.same (Imm.of s5)
    generalize upd H4 L (.lst ((m.pa.map fun q => (q.1 : Int)).map V.int)) = H5 at s5 hL5 hD5 hT5 ⊢
    refine ⟨L, rfl, ⟨_, sqL hL5⟩, fun R hR => ?_⟩
    refine lc_list (xs := m.pa.map fun q => iv q.1) (fun i G => Same H5 G ∧ ∃ rs : List Addr, G R = some (.lst (rs.map V.ref)) ∧ Paired (PartR K G) rs (m.pa.take i)) ⟨same_new hR, [], upd_same, .nil⟩ (fun i G _ p => sqL (p.1 _ _ hL5)) (fun i y G hy hp => ?_) (fun G hp => ?_)
    · obtain ⟨sm, rs, hG, pr⟩ := hp
      obtain ⟨qv, hq, rfl⟩ := map_at hy
      obtain ⟨t, ev, tw⟩ := val_two hl hT5 ok.asc (List.mem_of_getElem? hq)
      have rl : rs.length ≤ 6 := by rw [paired_len pr, List.length_take]; omega
      refine ⟨rfl, yes_ok ⟨_, rfl, _, rfl, _, rfl, D, .ref t, rfl, ?_, line_of (by simp), fun p hpn => ?_⟩⟩
      · rw [← ev]
        exact DGet.k (k := Sum.inl (qv.1 : Int)) (sm _ _ hD5)
      · have s6 := same_new (o := .tup [iv qv.1, .ref t]) hpn
        have pRn : p ≠ R := fun z => by rw [← z, hpn] at hG; cases hG
        have hGR := s6 _ _ hG
        have e6 : Same H5 (upd G p (.tup [iv qv.1, .ref t])) := sm.trans s6
        have e7 : Same H5 (upd (upd G p (.tup [iv qv.1, .ref t])) R (.lst (rs.map V.ref ++ [.ref p]))) := Evl.Ex.mut e6 hR
        have i7 : Imm [] (upd G p (.tup [iv qv.1, .ref t])) (upd (upd G p (.tup [iv qv.1, .ref t])) R (.lst (rs.map V.ref ++ [.ref p]))) := imm1 (keep_upd Keep.refl) hGR (lst_nf (by simp))
        refine ⟨_, hGR, line_lt (by rw [List.length_map]; omega), e7, rs ++ [p], by rw [List.map_append]; exact upd_same, ?_⟩
        rw [(cut_at hq).2]
        exact paired_app (paired_imp pr fun _ _ z => (z.imm (Imm.of s6)).imm i7) (.cons ⟨t, i7.t new_t, e7 _ _ tw⟩ .nil)
    · obtain ⟨sm, rs, hG, pr⟩ := hp
      rw [List.length_map, List.take_length] at pr
      refine ⟨R, _, rfl, sqL hG, fun u o hu' ho => ?_⟩
      have s8 := same_new (o := .frz o (.tup (rs.map V.ref))) hu'
      have pt : PartsAt K (upd G u (.frz o (.tup (rs.map V.ref)))) u m.pa := ⟨rs, ⟨o, upd_same, ho⟩, paired_imp pr fun _ _ z => z.imm (Imm.of s8)⟩
      have s58 := s5.trans (sm.trans s8)
      have hx8 := s58 _ _ hx4
      generalize upd G u (.frz o (.tup (rs.map V.ref))) = H8 at s8 pt s58 hx8 ⊢
      refine ⟨_, rfl, x, _, dx, _, rfl, hx8, T.cl_Table, T.na_Table_rows, (by simp [putF]), ?_⟩
      have k9 : Keep [x] H8 (upd H8 x (.ins (He.ga K "Table") dx (putF "rows" (.ref u) (putF "classes" (.ref c) [])))) := keep_upd Keep.refl
      have i9 : Imm [] H8 (upd H8 x (.ins (He.ga K "Table") dx (putF "rows" (.ref u) (putF "classes" (.ref c) [])))) := imm1 k9 hx8 (ins_nf (by simp))
      have hx9 : upd H8 x (.ins (He.ga K "Table") dx (putF "rows" (.ref u) (putF "classes" (.ref c) []))) x = some (.ins (He.ga K "Table") dx (putF "rows" (.ref u) (putF "classes" (.ref c) []))) := upd_same
      generalize upd H8 x (.ins (He.ga K "Table") dx (putF "rows" (.ref u) (putF "classes" (.ref c) []))) = H9 at k9 i9 hx9 ⊢
      refine ⟨_, rfl, _, rfl, x, _, dx, _, rfl, hx9, T.cl_Table, T.na_Table_closed, (by rw [put2 (by decide +kernel)]; simp), ?_⟩
      rw [put3]
      have kA : Keep [x] H9 (upd H9 x (.ins (He.ga K "Table") dx (tF c u sa))) := keep_upd Keep.refl
      have iA : Imm [] H9 (upd H9 x (.ins (He.ga K "Table") dx (tF c u sa))) := imm1 kA hx9 (ins_nf (by simp))
      have iT : Imm [] H (upd H9 x (.ins (He.ga K "Table") dx (tF c u sa))) := i04.trans ((Imm.of s58).trans (i9.trans iA))
      exact q _ ((Keep.of s13).trans (k4.trans ((Keep.of s58).trans (k9.trans kA)))) ⟨dx, c, u, sa, upd_same, iT.t hc, (pt.imm i9).imm iA, iT.t hs⟩
/-! ### the law's table -/
theorem kb_table {f : Addr} {fd : FuncData} (F : FdTable_init K f fd) : ∃ mv : List Value, KBn K fd ["self", "classes", "parts", "closed"] 3 ["closed"] (fun us ws => us ++ ws) (fun vs zs => vs ++ zs) := by
  obtain ⟨mv, h⟩ := FunD.kbinds0 (ps := ["self", "classes", "parts", "closed"]) F 3 ["closed"] [] (fun us _ ws => us ++ ws) (by simp) (by simp) (fun a _ b => a.append b) (fun D doc pm an cdv ct us mv ws h1 h2 h3 => match us, mv, ws, h1, h2, h3 with | [_, _, _], [], [_], _, _, _ => rfl)
  exact ⟨mv, h⟩
theorem parts_two {H : Hp} : ∀ {ps : List Addr} {pa : List (Nat × Nat × Nat)}, Paired (PartR K H) ps pa → ∃ ts : List Addr, ts.length = pa.length ∧ Paired (fun p kv => SqT K H p [kV kv.1, kv.2]) ps (kvP ts pa) ∧ Paired (TwoR H) ts pa
  | _, _, .nil => ⟨[], rfl, .nil, .nil⟩
  | _, _, .cons (a := p) (b := q) r t => by
    obtain ⟨ts, h1, h2, h3⟩ := parts_two t
    obtain ⟨u, u1, u2⟩ := r
    exact ⟨u :: ts, by rw [List.length_cons, List.length_cons, h1], .cons u1 h2, .cons u2 h3⟩
theorem k_lmade (T : Tx K mg) : Cal P w K mg base 12 "_law_made" (spLMade K) [] := by
  obtain ⟨fd, F⟩ := T.F_L_made
  obtain ⟨fdT, FT, FdT⟩ := ok_tabi (P := P) (w := w) (base := base) T
  obtain ⟨mv, KB⟩ := kb_table FdT
  refine calOf F (bL_made F) T.g__law_made scL_made (fun vs H Q E h => ?_) (fun cdv A outer s H vs Q E hr h => ?_)
  · obtain ⟨md, m, rfl, _⟩ := h
    rfl
  · obtain ⟨md, m, rfl, mo, ok, q⟩ := h
    obtain ⟨c, r, sh, h1, h2, h3, h4⟩ := mo.ex
    obtain ⟨ps, hz, hps⟩ := h3
    obtain ⟨ts, hl, kv, hT⟩ := parts_two hps
    refine ⟨_, pss_one (ps_ret (pe_makeN (n := 2) T.mk_Table FT (hr.mono (by decide)) rfl T.g_Table KB pass0 (pa_cons (pe_ix ix_tup (pv 0) pe_int (fun _ _ => rfl)) (pa_cons (pe_callTy (call_dictT rfl) rfl T.n_dict boot_dict_ (pa_cons (pe_ix ix_tup (pv 0) pe_int (fun _ _ => rfl)) pa_nil)) pa_nil))
        (pk_cons (pe_ix ix_tup (pv 0) pe_int (fun _ _ => rfl)) pk_nil))), ?_⟩
    refine ⟨_, rfl, md, _, 0, _, rfl, rfl, h1, rfl, ?_⟩
    refine ⟨_, rfl, md, _, 1, _, rfl, rfl, h1, rfl, r, ps, kvP ts m.pa, rfl, hz, kv, fun D hD => ?_⟩
    have em : mergeK [] (kvP ts m.pa) = kvP ts m.pa := merge_new _ [] (kvP_nodup hl ok.asc) fun _ _ => rfl
    rw [em]
    have s1 := same_new (o := .dK (kvP ts m.pa)) hD
    refine ⟨_, rfl, md, _, 2, _, rfl, rfl, same_t s1 h1, rfl, rfl, rfl, fun x dx nx ndx _ => ?_⟩
    have s2 : Same (upd H D (.dK (kvP ts m.pa))) (upd (upd (upd H D (.dK (kvP ts m.pa))) dx (.own x)) x (.ins (He.ga K "Table") dx [])) := made_same nx ndx Keep.refl
    have s12 := s1.trans s2
    exact ⟨x, dx, c, D, sh, ts, m, rfl, upd_same, ok, same_t s12 h2, same_t s12 h4, s2 _ _ upd_same, hl, paired_imp hT fun _ _ z => z.same (Imm.of s12), fun H' k' ta => ⟨rfl, q x H' (s1.trans (made_same nx ndx k')) ta⟩⟩
end
end Des
end T_D21
section T_DHead
set_option linter.all false
set_option maxRecDepth 100000
set_option maxHeartbeats 0
namespace Des
open PySem PySem.Spec PyProof.Rows L2
def dis_number : He.DefD := ⟨("is_number", none), "is_number", "is_number", defArgs sis_number, defBody sis_number, defScope sis_number, [], []⟩
def dare_classes : He.DefD := ⟨("are_classes", none), "are_classes", "are_classes", defArgs sare_classes, defBody sare_classes, defScope sare_classes, [], []⟩
def dare_two : He.DefD := ⟨("are_two", none), "are_two", "are_two", defArgs sare_two, defBody sare_two, defScope sare_two, [], []⟩
def dare_parts : He.DefD := ⟨("are_parts", none), "are_parts", "are_parts", defArgs sare_parts, defBody sare_parts, defScope sare_parts, [], []⟩
def dare_closed : He.DefD := ⟨("are_closed", none), "are_closed", "are_closed", defArgs sare_closed, defBody sare_closed, defScope sare_closed, [], []⟩
def dTable_init : He.DefD := ⟨("Table", some "__init__"), "__init__", "Table.__init__", defArgs sTable_init, defBody sTable_init, defScope sTable_init, [], [("closed", .adr kwAd)]⟩
def dTable_len : He.DefD := ⟨("Table", some "__len__"), "__len__", "Table.__len__", defArgs sTable_len, defBody sTable_len, defScope sTable_len, [], []⟩
def dTable_check_sign : He.DefD := ⟨("Table", some "check_sign"), "check_sign", "Table.check_sign", defArgs sTable_check_sign, defBody sTable_check_sign, defScope sTable_check_sign, [], []⟩
def dTable_bare : He.DefD := ⟨("Table", some "bare"), "bare", "Table.bare", defArgs sTable_bare, defBody sTable_bare, defScope sTable_bare, [], []⟩
def dTable_joined : He.DefD := ⟨("Table", some "joined"), "joined", "Table.joined", defArgs sTable_joined, defBody sTable_joined, defScope sTable_joined, [], []⟩
def dcheck_table : He.DefD := ⟨("check_table", none), "check_table", "check_table", defArgs scheck_table, defBody scheck_table, defScope scheck_table, [], []⟩
def dcheck_way : He.DefD := ⟨("check_way", none), "check_way", "check_way", defArgs scheck_way, defBody scheck_way, defScope scheck_way, [], []⟩
def dwrong_at : He.DefD := ⟨("wrong_at", none), "wrong_at", "wrong_at", defArgs swrong_at, defBody swrong_at, defScope swrong_at, [], []⟩
def dis_tame : He.DefD := ⟨("is_tame", none), "is_tame", "is_tame", defArgs sis_tame, defBody sis_tame, defScope sis_tame, [], []⟩
def dheld_back : He.DefD := ⟨("held_back", none), "held_back", "held_back", defArgs sheld_back, defBody sheld_back, defScope sheld_back, [], []⟩
def dwith_mark : He.DefD := ⟨("with_mark", none), "with_mark", "with_mark", defArgs swith_mark, defBody swith_mark, defScope swith_mark, [], []⟩
def dread_bare : He.DefD := ⟨("read_bare", none), "read_bare", "read_bare", defArgs sread_bare, defBody sread_bare, defScope sread_bare, [], []⟩
def dread_sign : He.DefD := ⟨("read_sign", none), "read_sign", "read_sign", defArgs sread_sign, defBody sread_sign, defScope sread_sign, [], []⟩
def dmade_plain : He.DefD := ⟨("made_plain", none), "made_plain", "made_plain", defArgs smade_plain, defBody smade_plain, defScope smade_plain, [], []⟩
def dDesk_init : He.DefD := ⟨("Desk", some "__init__"), "__init__", "Desk.__init__", defArgs sDesk_init, defBody sDesk_init, defScope sDesk_init, [], []⟩
def dDesk_len : He.DefD := ⟨("Desk", some "__len__"), "__len__", "Desk.__len__", defArgs sDesk_len, defBody sDesk_len, defScope sDesk_len, [], []⟩
def dDesk_edit : He.DefD := ⟨("Desk", some "edit"), "edit", "Desk.edit", defArgs sDesk_edit, defBody sDesk_edit, defScope sDesk_edit, [], []⟩
def dDesk_put : He.DefD := ⟨("Desk", some "put"), "put", "Desk.put", defArgs sDesk_put, defBody sDesk_put, defScope sDesk_put, [], []⟩
def dDesk_take : He.DefD := ⟨("Desk", some "take"), "take", "Desk.take", defArgs sDesk_take, defBody sDesk_take, defScope sDesk_take, [], []⟩
def dDesk_undo : He.DefD := ⟨("Desk", some "undo"), "undo", "Desk.undo", defArgs sDesk_undo, defBody sDesk_undo, defScope sDesk_undo, [], []⟩
def dDesk_branch : He.DefD := ⟨("Desk", some "branch"), "branch", "Desk.branch", defArgs sDesk_branch, defBody sDesk_branch, defScope sDesk_branch, [], []⟩
def dDesk_trial : He.DefD := ⟨("Desk", some "trial"), "trial", "Desk.trial", defArgs sDesk_trial, defBody sDesk_trial, defScope sDesk_trial, [], []⟩
def dDesk_attempt : He.DefD := ⟨("Desk", some "attempt"), "attempt", "Desk.attempt", defArgs sDesk_attempt, defBody sDesk_attempt, defScope sDesk_attempt, [], []⟩
def dTrial_init : He.DefD := ⟨("Trial", some "__init__"), "__init__", "Trial.__init__", defArgs sTrial_init, defBody sTrial_init, defScope sTrial_init, [], []⟩
def dTrial_enter : He.DefD := ⟨("Trial", some "__enter__"), "__enter__", "Trial.__enter__", defArgs sTrial_enter, defBody sTrial_enter, defScope sTrial_enter, [], []⟩
def dTrial_exit : He.DefD := ⟨("Trial", some "__exit__"), "__exit__", "Trial.__exit__", defArgs sTrial_exit, defBody sTrial_exit, defScope sTrial_exit, [], []⟩
def dL_cell_at : He.DefD := ⟨("_law_cell_at", none), "_law_cell_at", "_law_cell_at", defArgs sL_cell_at, defBody sL_cell_at, defScope sL_cell_at, [], []⟩
def dL_draw : He.DefD := ⟨("_law_draw", none), "_law_draw", "_law_draw", defArgs sL_draw, defBody sL_draw, defScope sL_draw, [], []⟩
def dL_number : He.DefD := ⟨("_law_number", none), "_law_number", "_law_number", defArgs sL_number, defBody sL_number, defScope sL_number, [], []⟩
def dL_next : He.DefD := ⟨("_law_next", none), "_law_next", "_law_next", defArgs sL_next, defBody sL_next, defScope sL_next, [], []⟩
def dL_pick : He.DefD := ⟨("_law_pick", none), "_law_pick", "_law_pick", defArgs sL_pick, defBody sL_pick, defScope sL_pick, [], []⟩
def dL_table : He.DefD := ⟨("_law_table", none), "_law_table", "_law_table", defArgs sL_table, defBody sL_table, defScope sL_table, [], []⟩
def dL_made : He.DefD := ⟨("_law_made", none), "_law_made", "_law_made", defArgs sL_made, defBody sL_made, defScope sL_made, [], []⟩
def dL_bare : He.DefD := ⟨("_law_bare", none), "_law_bare", "_law_bare", defArgs sL_bare, defBody sL_bare, defScope sL_bare, [], []⟩
def dL_pair : He.DefD := ⟨("_law_pair", none), "_law_pair", "_law_pair", defArgs sL_pair, defBody sL_pair, defScope sL_pair, [], []⟩
def dL_is_tame : He.DefD := ⟨("_law_is_tame", none), "_law_is_tame", "_law_is_tame", defArgs sL_is_tame, defBody sL_is_tame, defScope sL_is_tame, [], []⟩
def dL_joined : He.DefD := ⟨("_law_joined", none), "_law_joined", "_law_joined", defArgs sL_joined, defBody sL_joined, defScope sL_joined, [], []⟩
def dL_plain : He.DefD := ⟨("_law_plain", none), "_law_plain", "_law_plain", defArgs sL_plain, defBody sL_plain, defScope sL_plain, [], []⟩
def dL_is_same : He.DefD := ⟨("_law_is_same", none), "_law_is_same", "_law_is_same", defArgs sL_is_same, defBody sL_is_same, defScope sL_is_same, [], []⟩
def dL_is_place : He.DefD := ⟨("_law_is_place", none), "_law_is_place", "_law_is_place", defArgs sL_is_place, defBody sL_is_place, defScope sL_is_place, [], []⟩
def dL_put_right : He.DefD := ⟨("_law_put_right", none), "_law_put_right", "_law_put_right", defArgs sL_put_right, defBody sL_put_right, defScope sL_put_right, [], []⟩
def dL_take_right : He.DefD := ⟨("_law_take_right", none), "_law_take_right", "_law_take_right", defArgs sL_take_right, defBody sL_take_right, defScope sL_take_right, [], []⟩
def dL_undone_right : He.DefD := ⟨("_law_undone_right", none), "_law_undone_right", "_law_undone_right", defArgs sL_undone_right, defBody sL_undone_right, defScope sL_undone_right, [], []⟩
def dL_attempt_right : He.DefD := ⟨("_law_attempt_right", none), "_law_attempt_right", "_law_attempt_right", defArgs sL_attempt_right, defBody sL_attempt_right, defScope sL_attempt_right, [], []⟩
def dL_spell : He.DefD := ⟨("_law_spell", none), "_law_spell", "_law_spell", defArgs sL_spell, defBody sL_spell, defScope sL_spell, [], []⟩
def dlaw : He.DefD := ⟨("law", none), "law", "law", defArgs slaw, defBody slaw, defScope slaw, [], []⟩
def fn0 : List He.DefD := [dis_number, dare_classes, dare_two, dare_parts, dare_closed, dTable_init, dTable_len, dTable_check_sign, dTable_bare, dTable_joined, dcheck_table, dcheck_way, dwrong_at, dis_tame, dheld_back, dwith_mark, dread_bare, dread_sign, dmade_plain, dDesk_init, dDesk_len, dDesk_edit, dDesk_put, dDesk_take, dDesk_undo, dDesk_branch, dDesk_trial, dDesk_attempt, dTrial_init, dTrial_enter]
def fn1 : List He.DefD := [dTrial_exit, dL_cell_at, dL_draw, dL_number, dL_next, dL_pick, dL_table, dL_made, dL_bare, dL_pair, dL_is_tame, dL_joined, dL_plain, dL_is_same, dL_is_place, dL_put_right, dL_take_right, dL_undone_right, dL_attempt_right, dL_spell, dlaw]
def fn : List He.DefD := fn0 ++ fn1
def fa0 : List He.Fa := [.glo "is_number", .glo "are_classes", .glo "are_two", .glo "are_parts", .glo "are_closed", .glo "check_table", .glo "check_way", .glo "wrong_at", .glo "is_tame", .glo "held_back", .glo "with_mark", .glo "read_bare", .glo "read_sign", .glo "made_plain", .glo "_law_cell_at", .glo "_law_draw", .glo "_law_number", .glo "_law_next", .glo "_law_pick", .glo "_law_table", .glo "_law_made", .glo "_law_bare", .glo "_law_pair", .glo "_law_is_tame", .glo "_law_joined", .glo "_law_plain", .glo "_law_is_same", .glo "_law_is_place", .glo "_law_put_right", .glo "_law_take_right"]
def fa1 : List He.Fa := [.glo "_law_undone_right", .glo "_law_attempt_right", .glo "_law_spell", .glo "law", .glo "Table", .glo "Desk", .glo "Trial", .glo "SeamError", .glo "BadTable", .glo "BadSign", .glo "BadWay", .glo "BadPlace", .glo "BadEdit", .glo "NothingDone", .free "len", .free "isinstance", .free "int", .free "bool", .free "tuple", .free "dict", .free "all", .free "sorted", .free "zip", .free "enumerate", .free "list", .free "range", .free "str", .free "KeyError", .cls "Table", .mkr "Table"]
def fa2 : List He.Fa := [.cls "Desk", .mkr "Desk", .cls "Trial", .mkr "Trial", .noat "Table" "classes", .noat "Table" "rows", .noat "Table" "closed", .noat "Desk" "base", .noat "Desk" "kept", .noat "Trial" "desk", .noat "Trial" "before", .meth "Table" "check_sign", .meth "Table" "bare", .meth "Table" "joined", .meth "Table" "__len__", .meth "Desk" "__len__", .meth "Desk" "edit", .meth "Desk" "put", .meth "Desk" "take", .meth "Desk" "undo", .meth "Desk" "branch", .meth "Desk" "trial", .meth "Desk" "attempt", .meth "Trial" "__enter__", .meth "Trial" "__exit__", .exc "BadSign", .exc "BadPlace", .exc "BadEdit", .exc "NothingDone", .exm "BadSign" "BadSign" true]
def fa3 : List He.Fa := [.exm "BadSign" "BadPlace" false, .exm "BadSign" "BadEdit" false, .exm "BadSign" "NothingDone" false, .exm "BadPlace" "BadSign" false, .exm "BadPlace" "BadPlace" true, .exm "BadPlace" "BadEdit" false, .exm "BadPlace" "NothingDone" false, .exm "BadEdit" "BadSign" false, .exm "BadEdit" "BadPlace" false, .exm "BadEdit" "BadEdit" true, .exm "BadEdit" "NothingDone" false, .exm "NothingDone" "BadSign" false, .exm "NothingDone" "BadPlace" false, .exm "NothingDone" "BadEdit" false, .exm "NothingDone" "NothingDone" true, .int "MOST_SIGNS" 6, .int "MOST_CLASS" 2, .int "MOST_MARKS" 2]
def faX : List He.Fa := [.glo "FIRST", .glo "WAYS"]
def fa : List He.Fa := fa0 ++ fa1 ++ fa2 ++ fa3 ++ faX
def nm0 : List PySem.Str := ["_wall", "SeamError", "BadTable", "BadSign", "BadWay", "BadPlace", "BadEdit", "NothingDone", "MOST_SIGNS", "MOST_CLASS", "is_number", "are_classes", "are_two", "are_parts", "are_closed", "Table", "check_table", "FIRST", "WAYS", "MOST_MARKS", "check_way", "wrong_at", "is_tame", "held_back", "with_mark", "read_bare", "read_sign", "made_plain", "Desk", "Trial"]
def nm1 : List PySem.Str := ["_law_cell_at", "_law_draw", "_law_number", "_law_next", "_law_pick", "_law_table", "_law_made", "_law_bare", "_law_pair", "_law_is_tame", "_law_joined", "_law_plain", "_law_is_same", "_law_is_place", "_law_put_right", "_law_take_right", "_law_undone_right", "_law_attempt_right", "_law_spell"]
def nms : List PySem.Str := nm0 ++ nm1
def tf : List He.Defn := [atDef]
abbrev R : PySem.W.OpenRow := PySem.W.OpenLaw.row PySem.Challenge.rw_plainseams_k04_whole_long_desks
/-! ### what is seen besides: the properties' functions, isinstance of a Table, two tuples of the module -/
def fnA (K : PySem.W.Frag) (a : Addr) : He.FnW := match K.lookup a with
  | some ⟨_, _, .func fd, _⟩ => some (fd.name, fd.qualname, fd.params, fd.body, fd.scope, fd.globals, fd.closure, fd.builtins)
  | _ => none
def okA (K : PySem.W.Frag) (a : Addr) (q : Str) : Bool := PySem.W.keepIn K (.ref a) && (match K.lookup a with
  | some ⟨_, _, .func fd, _⟩ => PySem.W.codeIn K fd.code q && (He.dflB K fd.defaults [] && He.kwdB K fd.kwdefaults [])
  | _ => false)
def valA (n q : Str) (st : Stmt) : He.FnW := some (n, q, defArgs st, .stmts (defBody st), defScope st, mainGlobals, [], builtinsNs)
theorem fnA_ok {K : PySem.W.Frag} {a : Addr} {n q : Str} {st : Stmt} (e : fnA K a = valA n q st) (c : okA K a q = true) : ∃ fd, FunD K n q (defArgs st) (defBody st) (defScope st) [] [] a fd := by
  obtain ⟨kp, c2⟩ := He.ba c
  unfold fnA at e
  cases z : K.lookup a with
  | none =>
    rw [z] at c2
    cases c2
  | some o =>
    obtain ⟨oc, od, dt, osl⟩ := o
    rw [z] at c2 e
    cases dt with
    | func fd =>
      obtain ⟨n1, n2, n3, n4, n5, n6, n7, n8, n9, n10, n11, n12, n13, n14, n15⟩ := fd
      have e2 : (some (n1, n2, n3, n4, n5, n6, n7, n15) : He.FnW) = some (n, q, defArgs st, .stmts (defBody st), defScope st, mainGlobals, [], builtinsNs) := e
      simp only [Option.some.injEq, Prod.mk.injEq] at e2
      obtain ⟨h1, h2, h3, h4, h5, h6, h7, h8⟩ := e2
      subst h1 h2 h3 h4 h5 h6 h7 h8
      have c3 : (PySem.W.codeIn K n13 _ && (He.dflB K n8 [] && He.kwdB K n9 [])) = true := c2
      obtain ⟨k1, k2⟩ := He.ba c3
      obtain ⟨k3, k4⟩ := He.ba k2
      exact ⟨_, ⟨oc, od, n8, n9, n10, n11, n12, n13, n14, osl, rfl, z, k1, He.dflB_ok k3, He.kwdB_ok k4⟩, kp⟩
    | _ => cases c2
def propB (K : PySem.W.Frag) (x f : Str) : Bool := He.eqO (PySem.W.findIn K (.ref (He.ga K x)) f) (some (some (.ref (He.ma K (He.ga K x) f)))) && (He.eqO (PySem.W.specialIn K (.ref (He.ma K (He.ga K x) f)) "__get__") (some (some (.builtin "property.__get__"))) &&
  (decide (PySem.W.takesIn K (.ref (He.ma K (He.ga K x) f)) = some true) && (match PySem.W.recIn K (He.ma K (He.ga K x) f) "property" with
    | some (.ref g :: _) => true
    | _ => false)))
theorem propB_ok {K : PySem.W.Frag} {x f : Str} (h : propB K x f = true) : PropOf K (He.ga K x) f (He.ma K (He.ga K x) f) (propAd x f K) := by
  obtain ⟨h1, h2⟩ := He.ba h
  obtain ⟨h3, h4⟩ := He.ba h2
  obtain ⟨h5, h6⟩ := He.ba h4
  refine ⟨He.eqO_ok h1, He.eqO_ok h3, of_decide_eq_true h5, ?_⟩
  unfold propAd
  cases e : PySem.W.recIn K (He.ma K (He.ga K x) f) "property" with
  | none => rw [e] at h6; cases h6
  | some l =>
    rw [e] at h6
    cases l with
    | nil => cases h6
    | cons v r =>
      cases v with
      | ref g => exact ⟨r, rfl⟩
      | _ => cases h6
def insB (K : PySem.W.Frag) (x : Str) : Bool := He.eqO (PySem.W.findIn K (.ref (He.ga K x)) "__class__") (some (some (.builtin "object.__class__"))) && (He.eqO (PySem.W.specialIn K (.builtin "object.__class__") "__get__") (some (some (.builtin "getset_descriptor.__get__"))) &&
  (decide (PySem.W.takesIn K (.builtin "object.__class__") = some true) && (decide (PySem.W.mroIn K (He.ga K x) (.type "object") = some true) && decide (PySem.W.kitOne K (.ref (He.ga K x)) (.ref (He.ga K x)) = some true))))
theorem insB_ok {K : PySem.W.Frag} {x : Str} (h : insB K x = true) (c : Cls K (He.ga K x)) : C8.InsC K (He.ga K x) := by
  obtain ⟨h1, h2⟩ := He.ba h
  obtain ⟨h3, h4⟩ := He.ba h2
  obtain ⟨h5, h6⟩ := He.ba h4
  obtain ⟨h7, h8⟩ := He.ba h6
  exact ⟨c, He.eqO_ok h1, He.eqO_ok h3, of_decide_eq_true h5, of_decide_eq_true h7, of_decide_eq_true h8⟩
def secAd (x : Str) (K : PySem.W.Frag) : Addr := match K.lookup (He.ga K x) with
  | some ⟨_, _, .seq its _, _⟩ => (match its.getD 1 .none with
    | .ref u => u
    | _ => 0)
  | _ => 0
def nilB (K : PySem.W.Frag) (a : Addr) : Bool := match K.lookup a with
  | some ⟨.type c, _, .seq its _, _⟩ => decide (c = "tuple") && decide (its = #[])
  | _ => false
theorem nilB_ok {K : PySem.W.Frag} {a : Addr} (h : nilB K a = true) (H : Hp) : SqT K H a [] := by
  unfold nilB at h
  cases q : K.lookup a with
  | none => rw [q] at h; cases h
  | some o =>
    obtain ⟨oc, od, dt, osl⟩ := o
    rw [q] at h
    cases oc with
    | type c =>
      cases dt with
      | seq its n =>
        obtain ⟨h1, h2⟩ := He.ba (show (decide (c = "tuple") && decide (its = #[])) = true from h)
        have h2 := of_decide_eq_true h2
        subst h2
        exact .inr ⟨_, #[], n, q, congrArg Value.type (of_decide_eq_true h1), rfl, Nat.zero_le _, .nil⟩
      | _ => cases h
    | _ => cases dt <;> cases h
def ex (K : PySem.W.Frag) : Bool := propB K "Desk" "signs" && (propB K "Desk" "made" && (propB K "Desk" "journal" && (okA K (propAd "Desk" "signs" K) "Desk.signs" && (okA K (propAd "Desk" "made" K) "Desk.made" && (okA K (propAd "Desk" "journal" K) "Desk.journal" &&
  (insB K "Table" && (He.tupB K "WAYS" [.str "apart", .str "joined"] && (He.tupB K "FIRST" [.non, .adr (secAd "FIRST")] && nilB K (secAd "FIRST" K)))))))))
def obsP (K : PySem.W.Frag) : List He.FnW := [fnA K (propAd "Desk" "signs" K), fnA K (propAd "Desk" "made" K), fnA K (propAd "Desk" "journal" K)]
def valP : List He.FnW := [valA "signs" "Desk.signs" sDesk_signs, valA "made" "Desk.made" sDesk_made, valA "journal" "Desk.journal" sDesk_journal]
def hk : PySem.W.Hook where
  α := He.AlX × List He.FnW
  obs := fun s => (He.obsX 6 fa fn [] tf ex s.heap.get?, obsP (He.frT s.heap.get? (He.asD s.heap.get? 6)))
  val := fun w => (He.valX fn [] w, valP)
  says := fun w h => ∃ K : PySem.W.Frag, K.In h ∧ He.SaysX fa fn [] tf ex w h K ∧ obsP K = valP
  of := fun _ _ e => ⟨_, He.frT_in, He.saysX_of (congrArg (fun z : He.AlX × List He.FnW => z.1) e), congrArg (fun z : He.AlX × List He.FnW => z.2) e⟩
  keeps := fun _ _ _ ⟨K, hK, c, e⟩ k => ⟨K, PySem.W.Frag.In.keeps hK k, ⟨c.t, c.more, c.hd, c.out, fun p hp => k _ _ (c.empty p hp)⟩, e⟩
def ob (s : PySem.W.SharedT) : He.AlX × List He.FnW := (He.obsX 6 fa fn [] tf ex (HandSHeadRun.getT s), obsP (He.frT (HandSHeadRun.getT s) (He.asD (HandSHeadRun.getT s) 6)))
theorem ob_eq (s : PySem.W.SharedT) : ob s = hk.obs s.abs := by
  have e : HandSHeadRun.getT s = s.abs.heap.get? := funext (HandSHeadRun.getT_eq s)
  unfold ob
  rw [e]
  rfl
theorem run (w : World) : HandSHeadRun.RunEq R (PySem.W.view R.prog [54]) hk ob 12000 nms w := by
  intro os
  kernel_rfl
/-! ### the facts by name -/
theorem tx_of {K : PySem.W.Frag} {h : Heap} {mg : Str → Option Value} {w : World} (X : K.In h) (G : h.Ns mainGlobals mg) (c : He.SaysX fa fn [] tf ex w h K) (eP : obsP K = valP) : Tx K mg := by
  have cd := c.t.d
  have more := c.more
  obtain ⟨m1, more⟩ := He.ba more
  obtain ⟨m2, more⟩ := He.ba more
  obtain ⟨m3, more⟩ := He.ba more
  obtain ⟨m4, more⟩ := He.ba more
  obtain ⟨m5, more⟩ := He.ba more
  obtain ⟨m6, more⟩ := He.ba more
  obtain ⟨m7, more⟩ := He.ba more
  obtain ⟨m8, more⟩ := He.ba more
  obtain ⟨m9, m10⟩ := He.ba more
  have eP : [fnA K (propAd "Desk" "signs" K), fnA K (propAd "Desk" "made" K), fnA K (propAd "Desk" "journal" K)] = [valA "signs" "Desk.signs" sDesk_signs, valA "made" "Desk.made" sDesk_made, valA "journal" "Desk.journal" sDesk_journal] := eP
  injection eP with p1 eP
  injection eP with p2 eP
  injection eP with p3 _
  refine {
    g_is_number := He.glo_ok X G (cd.fact 0 (f := .glo "is_number") rfl),
    g_are_classes := He.glo_ok X G (cd.fact 1 (f := .glo "are_classes") rfl),
    g_are_two := He.glo_ok X G (cd.fact 2 (f := .glo "are_two") rfl),
    g_are_parts := He.glo_ok X G (cd.fact 3 (f := .glo "are_parts") rfl),
    g_are_closed := He.glo_ok X G (cd.fact 4 (f := .glo "are_closed") rfl),
    g_check_table := He.glo_ok X G (cd.fact 5 (f := .glo "check_table") rfl),
    g_check_way := He.glo_ok X G (cd.fact 6 (f := .glo "check_way") rfl),
    g_wrong_at := He.glo_ok X G (cd.fact 7 (f := .glo "wrong_at") rfl),
    g_is_tame := He.glo_ok X G (cd.fact 8 (f := .glo "is_tame") rfl),
    g_held_back := He.glo_ok X G (cd.fact 9 (f := .glo "held_back") rfl),
    g_with_mark := He.glo_ok X G (cd.fact 10 (f := .glo "with_mark") rfl),
    g_read_bare := He.glo_ok X G (cd.fact 11 (f := .glo "read_bare") rfl),
    g_read_sign := He.glo_ok X G (cd.fact 12 (f := .glo "read_sign") rfl),
    g_made_plain := He.glo_ok X G (cd.fact 13 (f := .glo "made_plain") rfl),
    g__law_cell_at := He.glo_ok X G (cd.fact 14 (f := .glo "_law_cell_at") rfl),
    g__law_draw := He.glo_ok X G (cd.fact 15 (f := .glo "_law_draw") rfl),
    g__law_number := He.glo_ok X G (cd.fact 16 (f := .glo "_law_number") rfl),
    g__law_next := He.glo_ok X G (cd.fact 17 (f := .glo "_law_next") rfl),
    g__law_pick := He.glo_ok X G (cd.fact 18 (f := .glo "_law_pick") rfl),
    g__law_table := He.glo_ok X G (cd.fact 19 (f := .glo "_law_table") rfl),
    g__law_made := He.glo_ok X G (cd.fact 20 (f := .glo "_law_made") rfl),
    g__law_bare := He.glo_ok X G (cd.fact 21 (f := .glo "_law_bare") rfl),
    g__law_pair := He.glo_ok X G (cd.fact 22 (f := .glo "_law_pair") rfl),
    g__law_is_tame := He.glo_ok X G (cd.fact 23 (f := .glo "_law_is_tame") rfl),
    g__law_joined := He.glo_ok X G (cd.fact 24 (f := .glo "_law_joined") rfl),
    g__law_plain := He.glo_ok X G (cd.fact 25 (f := .glo "_law_plain") rfl),
    g__law_is_same := He.glo_ok X G (cd.fact 26 (f := .glo "_law_is_same") rfl),
    g__law_is_place := He.glo_ok X G (cd.fact 27 (f := .glo "_law_is_place") rfl),
    g__law_put_right := He.glo_ok X G (cd.fact 28 (f := .glo "_law_put_right") rfl),
    g__law_take_right := He.glo_ok X G (cd.fact 29 (f := .glo "_law_take_right") rfl),
    g__law_undone_right := He.glo_ok X G (cd.fact 30 (f := .glo "_law_undone_right") rfl),
    g__law_attempt_right := He.glo_ok X G (cd.fact 31 (f := .glo "_law_attempt_right") rfl),
    g__law_spell := He.glo_ok X G (cd.fact 32 (f := .glo "_law_spell") rfl),
    g_law := He.glo_ok X G (cd.fact 33 (f := .glo "law") rfl),
    g_Table := He.glo_ok X G (cd.fact 34 (f := .glo "Table") rfl),
    g_Desk := He.glo_ok X G (cd.fact 35 (f := .glo "Desk") rfl),
    g_Trial := He.glo_ok X G (cd.fact 36 (f := .glo "Trial") rfl),
    g_BadSign := He.glo_ok X G (cd.fact 39 (f := .glo "BadSign") rfl),
    g_BadPlace := He.glo_ok X G (cd.fact 41 (f := .glo "BadPlace") rfl),
    g_BadEdit := He.glo_ok X G (cd.fact 42 (f := .glo "BadEdit") rfl),
    g_NothingDone := He.glo_ok X G (cd.fact 43 (f := .glo "NothingDone") rfl),
    g_FIRST := He.glo_ok X G (cd.fact 108 (f := .glo "FIRST") rfl),
    g_WAYS := He.glo_ok X G (cd.fact 109 (f := .glo "WAYS") rfl),
    n_len := He.free_ok X G (cd.fact 44 (f := .free "len") rfl),
    n_isinstance := He.free_ok X G (cd.fact 45 (f := .free "isinstance") rfl),
    n_int := He.free_ok X G (cd.fact 46 (f := .free "int") rfl),
    n_bool := He.free_ok X G (cd.fact 47 (f := .free "bool") rfl),
    n_tuple := He.free_ok X G (cd.fact 48 (f := .free "tuple") rfl),
    n_dict := He.free_ok X G (cd.fact 49 (f := .free "dict") rfl),
    n_all := He.free_ok X G (cd.fact 50 (f := .free "all") rfl),
    n_sorted := He.free_ok X G (cd.fact 51 (f := .free "sorted") rfl),
    n_zip := He.free_ok X G (cd.fact 52 (f := .free "zip") rfl),
    n_enumerate := He.free_ok X G (cd.fact 53 (f := .free "enumerate") rfl),
    n_list := He.free_ok X G (cd.fact 54 (f := .free "list") rfl),
    n_range := He.free_ok X G (cd.fact 55 (f := .free "range") rfl),
    n_str := He.free_ok X G (cd.fact 56 (f := .free "str") rfl),
    n_KeyError := He.free_ok X G (cd.fact 57 (f := .free "KeyError") rfl),
    cl_Table := He.cls_ok (cd.fact 58 (f := .cls "Table") rfl),
    mk_Table := He.mkr_ok (cd.fact 59 (f := .mkr "Table") rfl),
    cl_Desk := He.cls_ok (cd.fact 60 (f := .cls "Desk") rfl),
    mk_Desk := He.mkr_ok (cd.fact 61 (f := .mkr "Desk") rfl),
    cl_Trial := He.cls_ok (cd.fact 62 (f := .cls "Trial") rfl),
    mk_Trial := He.mkr_ok (cd.fact 63 (f := .mkr "Trial") rfl),
    na_Table_classes := He.noat_ok (cd.fact 64 (f := .noat "Table" "classes") rfl),
    na_Table_rows := He.noat_ok (cd.fact 65 (f := .noat "Table" "rows") rfl),
    na_Table_closed := He.noat_ok (cd.fact 66 (f := .noat "Table" "closed") rfl),
    na_Desk_base := He.noat_ok (cd.fact 67 (f := .noat "Desk" "base") rfl),
    na_Desk_kept := He.noat_ok (cd.fact 68 (f := .noat "Desk" "kept") rfl),
    na_Trial_desk := He.noat_ok (cd.fact 69 (f := .noat "Trial" "desk") rfl),
    na_Trial_before := He.noat_ok (cd.fact 70 (f := .noat "Trial" "before") rfl),
    m_Table_check_sign := He.meth_ok (cd.fact 71 (f := .meth "Table" "check_sign") rfl),
    m_Table_bare := He.meth_ok (cd.fact 72 (f := .meth "Table" "bare") rfl),
    m_Table_joined := He.meth_ok (cd.fact 73 (f := .meth "Table" "joined") rfl),
    m_Table_len := He.meth_ok (cd.fact 74 (f := .meth "Table" "__len__") rfl),
    m_Desk_len := He.meth_ok (cd.fact 75 (f := .meth "Desk" "__len__") rfl),
    m_Desk_edit := He.meth_ok (cd.fact 76 (f := .meth "Desk" "edit") rfl),
    m_Desk_put := He.meth_ok (cd.fact 77 (f := .meth "Desk" "put") rfl),
    m_Desk_take := He.meth_ok (cd.fact 78 (f := .meth "Desk" "take") rfl),
    m_Desk_undo := He.meth_ok (cd.fact 79 (f := .meth "Desk" "undo") rfl),
    m_Desk_branch := He.meth_ok (cd.fact 80 (f := .meth "Desk" "branch") rfl),
    m_Desk_trial := He.meth_ok (cd.fact 81 (f := .meth "Desk" "trial") rfl),
    m_Desk_attempt := He.meth_ok (cd.fact 82 (f := .meth "Desk" "attempt") rfl),
    m_Trial_enter := He.meth_ok (cd.fact 83 (f := .meth "Trial" "__enter__") rfl),
    m_Trial_exit := He.meth_ok (cd.fact 84 (f := .meth "Trial" "__exit__") rfl),
    x_BadSign := He.exc_ok (cd.fact 85 (f := .exc "BadSign") rfl),
    x_BadPlace := He.exc_ok (cd.fact 86 (f := .exc "BadPlace") rfl),
    x_BadEdit := He.exc_ok (cd.fact 87 (f := .exc "BadEdit") rfl),
    x_NothingDone := He.exc_ok (cd.fact 88 (f := .exc "NothingDone") rfl),
    e_BadSign_BadSign := He.exm_ok (cd.fact 89 (f := .exm "BadSign" "BadSign" true) rfl),
    e_BadSign_BadPlace := He.exm_ok (cd.fact 90 (f := .exm "BadSign" "BadPlace" false) rfl),
    e_BadPlace_BadPlace := He.exm_ok (cd.fact 94 (f := .exm "BadPlace" "BadPlace" true) rfl),
    e_BadEdit_BadSign := He.exm_ok (cd.fact 97 (f := .exm "BadEdit" "BadSign" false) rfl),
    e_BadEdit_BadPlace := He.exm_ok (cd.fact 98 (f := .exm "BadEdit" "BadPlace" false) rfl),
    e_BadEdit_BadEdit := He.exm_ok (cd.fact 99 (f := .exm "BadEdit" "BadEdit" true) rfl),
    e_NothingDone_NothingDone := He.exm_ok (cd.fact 104 (f := .exm "NothingDone" "NothingDone" true) rfl),
    i_MOST_SIGNS := He.int_ok X G (cd.fact 105 (f := .int "MOST_SIGNS" 6) rfl),
    i_MOST_CLASS := He.int_ok X G (cd.fact 106 (f := .int "MOST_CLASS" 2) rfl),
    i_MOST_MARKS := He.int_ok X G (cd.fact 107 (f := .int "MOST_MARKS" 2) rfl),
    F_is_number := cd.def_ 0 (d := dis_number) rfl,
    F_are_classes := cd.def_ 1 (d := dare_classes) rfl,
    F_are_two := cd.def_ 2 (d := dare_two) rfl,
    F_are_parts := cd.def_ 3 (d := dare_parts) rfl,
    F_are_closed := cd.def_ 4 (d := dare_closed) rfl,
    F_Table_init := cd.def_ 5 (d := dTable_init) rfl,
    F_Table_len := cd.def_ 6 (d := dTable_len) rfl,
    F_Table_check_sign := cd.def_ 7 (d := dTable_check_sign) rfl,
    F_Table_bare := cd.def_ 8 (d := dTable_bare) rfl,
    F_Table_joined := cd.def_ 9 (d := dTable_joined) rfl,
    F_check_table := cd.def_ 10 (d := dcheck_table) rfl,
    F_check_way := cd.def_ 11 (d := dcheck_way) rfl,
    F_wrong_at := cd.def_ 12 (d := dwrong_at) rfl,
    F_is_tame := cd.def_ 13 (d := dis_tame) rfl,
    F_held_back := cd.def_ 14 (d := dheld_back) rfl,
    F_with_mark := cd.def_ 15 (d := dwith_mark) rfl,
    F_read_bare := cd.def_ 16 (d := dread_bare) rfl,
    F_read_sign := cd.def_ 17 (d := dread_sign) rfl,
    F_made_plain := cd.def_ 18 (d := dmade_plain) rfl,
    F_Desk_init := cd.def_ 19 (d := dDesk_init) rfl,
    F_Desk_signs := fnA_ok (st := sDesk_signs) p1 m4,
    F_Desk_made := fnA_ok (st := sDesk_made) p2 m5,
    F_Desk_journal := fnA_ok (st := sDesk_journal) p3 m6,
    F_Desk_len := cd.def_ 20 (d := dDesk_len) rfl,
    F_Desk_edit := cd.def_ 21 (d := dDesk_edit) rfl,
    F_Desk_put := cd.def_ 22 (d := dDesk_put) rfl,
    F_Desk_take := cd.def_ 23 (d := dDesk_take) rfl,
    F_Desk_undo := cd.def_ 24 (d := dDesk_undo) rfl,
    F_Desk_branch := cd.def_ 25 (d := dDesk_branch) rfl,
    F_Desk_trial := cd.def_ 26 (d := dDesk_trial) rfl,
    F_Desk_attempt := cd.def_ 27 (d := dDesk_attempt) rfl,
    F_Trial_init := cd.def_ 28 (d := dTrial_init) rfl,
    F_Trial_enter := cd.def_ 29 (d := dTrial_enter) rfl,
    F_Trial_exit := cd.def_ 30 (d := dTrial_exit) rfl,
    F_L_cell_at := cd.def_ 31 (d := dL_cell_at) rfl,
    F_L_draw := cd.def_ 32 (d := dL_draw) rfl,
    F_L_number := cd.def_ 33 (d := dL_number) rfl,
    F_L_next := cd.def_ 34 (d := dL_next) rfl,
    F_L_pick := cd.def_ 35 (d := dL_pick) rfl,
    F_L_table := cd.def_ 36 (d := dL_table) rfl,
    F_L_made := cd.def_ 37 (d := dL_made) rfl,
    F_L_bare := cd.def_ 38 (d := dL_bare) rfl,
    F_L_pair := cd.def_ 39 (d := dL_pair) rfl,
    F_L_is_tame := cd.def_ 40 (d := dL_is_tame) rfl,
    F_L_joined := cd.def_ 41 (d := dL_joined) rfl,
    F_L_plain := cd.def_ 42 (d := dL_plain) rfl,
    F_L_is_same := cd.def_ 43 (d := dL_is_same) rfl,
    F_L_is_place := cd.def_ 44 (d := dL_is_place) rfl,
    F_L_put_right := cd.def_ 45 (d := dL_put_right) rfl,
    F_L_take_right := cd.def_ 46 (d := dL_take_right) rfl,
    F_L_undone_right := cd.def_ 47 (d := dL_undone_right) rfl,
    F_L_attempt_right := cd.def_ 48 (d := dL_attempt_right) rfl,
    F_L_spell := cd.def_ 49 (d := dL_spell) rfl,
    F_law := cd.def_ 50 (d := dlaw) rfl,
    p_Desk_signs := propB_ok m1,
    p_Desk_made := propB_ok m2,
    p_Desk_journal := propB_ok m3,
    ic_Table := insB_ok m7 (He.cls_ok (cd.fact 58 (f := .cls "Table") rfl)),
    t_FIRST := ⟨secAd "FIRST" K, He.tupB_ok m9 _, nilB_ok m10 _⟩,
    t_WAYS := He.tupB_ok m8 _ }
theorem fd_uniq {x q : Str} {pa : Arguments} {bd : List Stmt} {sc : Scope} {f : Addr} {fd1 fd2 : FuncData} {K : PySem.W.Frag} (F1 : FunD K x q pa bd sc [] [] f fd1) (F2 : FunD K x q pa bd sc [] [] f fd2) : fd1 = fd2 := by
  obtain ⟨oc, od, dV, kV, doc, pm, an, cdv, ct, osl, _, lk, _⟩ := F1.ex
  obtain ⟨oc', od', dV', kV', doc', pm', an', cdv', ct', osl', _, lk', _⟩ := F2.ex
  rw [lk] at lk'
  injection lk' with lk'
  injection lk' with _ _ e
  injection e with e
end Des
end T_DHead
section T_DEnd
set_option linter.all false
set_option maxRecDepth 100000
set_option maxHeartbeats 0
namespace Des
open PySem PySem.Spec PyProof.Rows L2
theorem facts {P : Program} {w : World} {K : PySem.W.Frag} {h : Heap} {mg : Str → Option Value} {f : Addr} (X : K.In h) (G : h.Ns mainGlobals mg) (hfa : mg ("law" : Str) = some (.ref f)) (c : He.SaysX fa fn [] tf ex w h K) (eP : obsP K = valP) :
    ∃ fd : FuncData, (∀ (s : Shared) (v : Value), BindsTo s fd ⟨[v], []⟩ [("_law_script", v)]) ∧ ∀ base : Heap, K.In base → base.Ns mainGlobals mg → (∀ p ∈ [He.cT K atDef], LamX.TabB base mg p.1 p.2) → FnOk P w K mg base CX0 26 f fd ["_law_script"] (spLaw K) := by
  have T : Tx K mg := tx_of X G c eP
  obtain ⟨fd, F⟩ := T.F_law
  have e := hfa.symm.trans T.g_law
  cases e
  have b := FunD.bindsA (ps := ["_law_script"]) F fun _ _ _ _ _ _ us hl => match us, hl with | [_], _ => rfl
  refine ⟨fd, fun s v => b s [v] rfl, fun base _ _ TB => ?_⟩
  obtain ⟨fd', ok, F'⟩ := ok_law (P := P) (w := w) (base := base) T (TB (He.cT K atDef) (List.mem_singleton.mpr rfl)) (k_lmade T)
  have q := fd_uniq F F'
  subst q
  exact ok
end Des
open PySem PySem.W PySem.Calls PyProof.Rows
theorem PySem.Challenge.cw_plainseams_k04_whole_long_desks_holds : PySem.Challenge.rw_plainseams_k04_whole_long_desks.Holds := by
  w_on; o_law
  refine HandSHeadRun.head_any (r := OpenLaw.row PySem.Challenge.rw_plainseams_k04_whole_long_desks) (q := view (OpenLaw.row PySem.Challenge.rw_plainseams_k04_whole_long_desks).prog [54]) (H := Des.hk) (ob := Des.ob) (M := 12000) (loose := Des.nms) (d := HandSHeadRun.topDef (OpenLaw.row PySem.Challenge.rw_plainseams_k04_whole_long_desks).prog 54) (kwd := []) Des.ob_eq
    (by kernel_rfl) (fun s => by kernel_rfl) Des.run (by kernel_rfl) (by kernel_rfl) (by kernel_rfl) (by rfl) (by first | assumption | decide +kernel) (by decide +kernel) ⟨rfl, rfl, rfl, rfl, rfl, by decide +kernel⟩ ?hw ?hc
  case hw => w_witness2
  case hc =>
    refine LamX.walk_ofTsE (l := PySem.Challenge.rw_plainseams_k04_whole_long_desks) (n := 63) (k := 26) (x := "_law_script") (CX := fun _ => L2.CX0) rfl (by decide) (by kernel_rfl) ⟨rfl, by decide, by decide⟩ ?F (fun _ _ _ _ _ z => z)
    intro w mg fa h Y G hmg0
    obtain ⟨K, KX, c, eP⟩ := Y
    have hmg : mg ("law" : PySem.Str) = some (.ref fa) := by
      have e : (HandSHeadRun.topDef (OpenLaw.row PySem.Challenge.rw_plainseams_k04_whole_long_desks).prog 54).name = ("law" : PySem.Str) := by kernel_rfl
      rw [← e]
      exact hmg0
    obtain ⟨fd, hb, hF⟩ := Des.facts (P := (PySem.Challenge.rw_plainseams_k04_whole_long_desks).prog) (w := w) KX G hmg c eP
    refine ⟨K, KX, fd, [He.cT K Des.atDef], Des.spLaw K, ?_, ?_, ?_, hb, ?_, hF⟩
    · intro p hp
      have hp := List.mem_singleton.mp hp
      subst hp
      exact c.empty Des.atDef (List.mem_singleton.mpr rfl)
    · intro p hp
      have hp := List.mem_singleton.mp hp
      subst hp
      exact c.out Des.atDef (List.mem_singleton.mpr rfl)
    · intro p hp
      have hp := List.mem_singleton.mp hp
      subst hp
      exact PySem.W.codeHd_of_K KX (c.hd Des.atDef (List.mem_singleton.mpr rfl))
    · intro H a ns hl _ hT hS
      exact ⟨a, ns, rfl, hS, NdefX.TabN.nil (hT _ (List.mem_singleton.mpr rfl)), fun _ => rfl⟩
end T_DEnd
