import PyProof.Rows.All
import Wide.All
import OpenK.AllK
import Wide.FinOn
import PyProof.EqAt
import PyProof.EqKinds
import PyProof.TupleCall
import PyProof.ReprRoads
import HandS.ForMost
import HandS.ForExc
import HandS.Defaults
import KE.KFromBytes
import KE.KExcInit
import HandS.ExcInit
import HandS.FStr
import KE.KIsAll
import KE.KTryMore
import HandS.ExcIs
import HandS.ExcField
import HandS.IsInst
import HandS.SetFor
import HandS.HeadHook1
import HandS.HeadHook2
import PySem.Challenge.RW_lastingrun_k51_whole_rings_that_are_cut
import HandS.Wide
import HandS.Style
import HandS.TryOnly
import HandS.Flow
import HandS.Walk
import KE.KStateDown
import HandS.Head0
import HandS.Head1
import HandS.Head2
import HandS.HeadEnd
import HandS.HeadHook4
/-! The plain mathematics of a log in a ring of blocks: chains of blocks, what a flush and a crash leave, what an opening finds. No program in sight. -/
namespace RM
structure Part (ρ : Type) where
  num : Nat
  ep : Nat
  fst : Nat
  recs : List ρ
abbrev Plate (ρ : Type) := List (Option (Part ρ))
section
variable {ρ : Type}
/-- what stands at the place of block n of the ring -/
def atB (S : Plate ρ) (c n : Nat) : Option (Part ρ) := (S.getD (2 + n % c) none)
inductive Chain (S : Plate ρ) (c : Nat) : Nat → Nat → Nat → List (Part ρ) → Nat → Nat → Nat → Prop
  | nil {n e m : Nat} : Chain S c n e m [] n e m
  | cons {n e m n' e' m' : Nat} {p : Part ρ} {ps : List (Part ρ)} (h : atB S c n = some p) (h1 : p.num = n) (h2 : e ≤ p.ep) (h3 : p.fst = m)
      (t : Chain S c (n + 1) p.ep (m + p.recs.length) ps n' e' m') : Chain S c n e m (p :: ps) n' e' m'
def Stop (S : Plate ρ) (c n e m : Nat) : Prop := ∀ p, atB S c n = some p → ¬ (p.num = n ∧ e ≤ p.ep ∧ p.fst = m)
def recsOf (ps : List (Part ρ)) : List ρ := ps.flatMap (·.recs)
def Opens (S : Plate ρ) (c mb me mr : Nat) (rs : List ρ) (next safe : Nat) : Prop :=
  ∃ ps l, Chain S c mb me mr ps next l safe ∧ Stop S c next l safe ∧ recsOf ps = rs

theorem Chain.num {S : Plate ρ} {c n e m n' e' m' : Nat} {ps : List (Part ρ)} (h : Chain S c n e m ps n' e' m') : n' = n + ps.length := by
  induction h with
  | nil => simp
  | cons _ _ _ _ _ ih => simp only [List.length_cons]; omega
theorem Chain.sum {S : Plate ρ} {c n e m n' e' m' : Nat} {ps : List (Part ρ)} (h : Chain S c n e m ps n' e' m') : m' = m + (recsOf ps).length := by
  induction h with
  | nil => simp [recsOf]
  | cons _ _ _ _ _ ih =>
    simp only [recsOf, List.flatMap_cons, List.length_append] at ih ⊢
    omega
theorem Chain.get {S : Plate ρ} {c n e m n' e' m' : Nat} {ps : List (Part ρ)} (h : Chain S c n e m ps n' e' m') : ∀ b, n ≤ b → b < n' → ∃ p, atB S c b = some p ∧ p.num = b ∧ m ≤ p.fst ∧ p ∈ ps := by
  induction h with
  | nil => intro b h1 h2; omega
  | @cons n e m n' e' m' p ps h h1 h2 h3 t ih =>
    intro b hb hb'
    by_cases q : b = n
    · subst q
      exact ⟨p, h, h1, by omega, List.mem_cons_self⟩
    · obtain ⟨p', a, b', d, k⟩ := ih b (by omega) hb'
      exact ⟨p', a, b', by omega, List.mem_cons_of_mem _ k⟩
theorem Chain.congr {S S' : Plate ρ} {c n e m n' e' m' : Nat} {ps : List (Part ρ)} (h : Chain S c n e m ps n' e' m') (k : ∀ b, n ≤ b → b < n' → atB S' c b = atB S c b) : Chain S' c n e m ps n' e' m' := by
  induction h with
  | nil => exact .nil
  | @cons n e m n' e' m' p ps h h1 h2 h3 t ih =>
    have z := t.num
    exact .cons ((k n (Nat.le_refl _) (by omega)).trans h) h1 h2 h3 (ih fun b h1 h2 => k b (by omega) h2)
theorem Chain.append {S : Plate ρ} {c n e m n' e' m' n'' e'' m'' : Nat} {ps qs : List (Part ρ)} (h : Chain S c n e m ps n' e' m') (k : Chain S c n' e' m' qs n'' e'' m'') : Chain S c n e m (ps ++ qs) n'' e'' m'' := by
  induction h with
  | nil => exact k
  | cons h h1 h2 h3 t ih => exact .cons h h1 h2 h3 (ih k)
theorem Chain.last {S : Plate ρ} {c n e m n' e' m' : Nat} {ps : List (Part ρ)} (h : Chain S c n e m ps n' e' m') : (ps = [] ∧ e' = e) ∨ ∃ p ∈ ps, e' = p.ep := by
  induction h with
  | nil => exact .inl ⟨rfl, rfl⟩
  | @cons n e m n' e' m' p ps h h1 h2 h3 t ih =>
    refine .inr ?_
    rcases ih with ⟨_, q⟩ | ⟨p', q1, q2⟩
    · exact ⟨p, List.mem_cons_self, q⟩
    · exact ⟨p', List.mem_cons_of_mem _ q1, q2⟩
theorem Chain.mem {S : Plate ρ} {c n e m n' e' m' : Nat} {ps : List (Part ρ)} (h : Chain S c n e m ps n' e' m') : ∀ p ∈ ps, ∃ b, n ≤ b ∧ b < n' ∧ atB S c b = some p ∧ p.num = b := by
  induction h with
  | nil => intro p hp; cases hp
  | @cons n e m n' e' m' p ps h h1 h2 h3 t ih =>
    intro p' hp
    have z := t.num
    rcases List.mem_cons.mp hp with q | q
    · subst q; exact ⟨n, Nat.le_refl _, by omega, h, h1⟩
    · obtain ⟨b, k1, k2, k3, k4⟩ := ih p' q
      exact ⟨b, by omega, k2, k3, k4⟩

/-! ### blocks that are written -/
def parts (n E m : Nat) : List (List ρ) → List (Part ρ)
  | [] => []
  | g :: gs => ⟨n, E, m, g⟩ :: parts (n + 1) E (m + g.length) gs
theorem parts_length (E : Nat) : ∀ (gs : List (List ρ)) (n m : Nat), (parts n E m gs).length = gs.length
  | [], _, _ => rfl
  | g :: gs, n, m => by simp [parts, parts_length E gs]
theorem parts_recs (E : Nat) : ∀ (gs : List (List ρ)) (n m : Nat), recsOf (parts n E m gs) = gs.flatten
  | [], _, _ => rfl
  | g :: gs, n, m => by
    have ih := parts_recs E gs (n + 1) (m + g.length)
    simp only [recsOf] at ih
    simp [parts, recsOf, ih]
theorem parts_get (E : Nat) : ∀ (gs : List (List ρ)) (n m i : Nat) (p : Part ρ), (parts n E m gs)[i]? = some p → p.num = n + i ∧ p.ep = E ∧ p.fst = m + (gs.take i).flatten.length ∧ gs[i]? = some p.recs
  | [], _, _, i, p, h => by simp [parts] at h
  | g :: gs, n, m, 0, p, h => by
    simp [parts] at h
    subst h
    simp
  | g :: gs, n, m, i + 1, p, h => by
    simp only [parts, List.getElem?_cons_succ] at h
    obtain ⟨a, b, c, d⟩ := parts_get E gs _ _ i p h
    refine ⟨by omega, b, ?_, by simpa using d⟩
    simp only [List.take_succ_cons, List.flatten_cons, List.length_append]
    omega
theorem parts_take (E : Nat) : ∀ (gs : List (List ρ)) (n m s : Nat), (parts n E m gs).take s = parts n E m (gs.take s)
  | [], _, _, s => by simp [parts]
  | g :: gs, n, m, 0 => by simp [parts]
  | g :: gs, n, m, s + 1 => by simp [parts, parts_take E gs]
/-- parts written, one after the other -/
def put (S : Plate ρ) (c : Nat) : List (Part ρ) → Plate ρ
  | [] => S
  | p :: ps => put (S.set (2 + p.num % c) (some p)) c ps
theorem put_length (c : Nat) : ∀ (ps : List (Part ρ)) (S : Plate ρ), (put S c ps).length = S.length
  | [], _ => rfl
  | p :: ps, S => by rw [put, put_length c ps]; simp
theorem put_append (c : Nat) : ∀ (ps qs : List (Part ρ)) (S : Plate ρ), put S c (ps ++ qs) = put (put S c ps) c qs
  | [], _, _ => rfl
  | p :: ps, qs, S => by rw [List.cons_append, put, put, put_append c ps]
theorem atB_set {S : Plate ρ} {c a b : Nat} {p : Part ρ} (hc : 0 < c) (hS : S.length = c + 3) : atB (S.set (2 + a % c) (some p)) c b = if a % c = b % c then some p else atB S c b := by
  have h1 : 2 + a % c < S.length := by have := Nat.mod_lt a hc; omega
  unfold atB
  rw [List.getD_eq_getElem?_getD, List.getD_eq_getElem?_getD]
  by_cases h : a % c = b % c
  · rw [if_pos h, ← h, List.getElem?_set_self h1]; rfl
  · rw [if_neg h, List.getElem?_set_ne (by omega)]
theorem put_cases {c : Nat} (hc : 0 < c) (b : Nat) : ∀ (qs : List (Part ρ)) (S : Plate ρ), S.length = c + 3 →
    (atB (put S c qs) c b = atB S c b ∧ ∀ p ∈ qs, p.num % c ≠ b % c) ∨ ∃ p ∈ qs, p.num % c = b % c ∧ atB (put S c qs) c b = some p
  | [], S, _ => .inl ⟨rfl, fun p hp => by cases hp⟩
  | q :: qs, S, hS => by
    rcases put_cases hc b qs (S.set (2 + q.num % c) (some q)) (by simpa using hS) with ⟨h1, h2⟩ | ⟨p, h1, h2, h3⟩
    · rw [atB_set hc hS] at h1
      by_cases h : q.num % c = b % c
      · rw [if_pos h] at h1
        exact .inr ⟨q, List.mem_cons_self, h, h1⟩
      · rw [if_neg h] at h1
        refine .inl ⟨h1, fun p hp => ?_⟩
        rcases List.mem_cons.mp hp with e | e
        · subst e; exact h
        · exact h2 p e
    · exact .inr ⟨p, List.mem_cons_of_mem _ h1, h2, h3⟩
theorem mod_win {c a b : Nat} (h : a % c = b % c) (h1 : a ≤ b) (h2 : b < a + c) : a = b := by
  have e1 := Nat.div_add_mod a c
  have e2 := Nat.div_add_mod b c
  by_cases hc : c = 0
  · subst hc; omega
  · have l : a / c ≤ b / c := Nat.div_le_div_right h1
    by_cases q : a / c = b / c
    · rw [q] at e1; omega
    · have q2 : a / c + 1 ≤ b / c := by omega
      have q3 : c * (a / c + 1) ≤ c * (b / c) := Nat.mul_le_mul_left _ q2
      rw [Nat.mul_add] at q3
      omega
theorem mod_win2 {c a b n : Nat} (h : a % c = b % c) (h1 : n ≤ a) (h2 : a < n + c) (h3 : n ≤ b) (h4 : b < n + c) : a = b := by
  rcases Nat.le_total a b with l | l
  · exact mod_win h l (by omega)
  · exact (mod_win h.symm l (by omega)).symm

/-! ### the log and what the law knows of it -/
def seg (l : List ρ) (a b : Nat) : List ρ := (l.take b).drop a
theorem seg_length (l : List ρ) (a b : Nat) (h : b ≤ l.length) : (seg l a b).length = b - a := by
  unfold seg; rw [List.length_drop, List.length_take]; omega

structure LSt (ρ : Type) where
  line : List ρ
  beg : Nat
  needed : Nat
  next : Nat
  safe : Nat
  marks : List (Nat × Nat × Nat)
  cut : Nat × Nat × Nat
structure MarkOk (S : Plate ρ) (c E : Nat) (st : LSt ρ) (m : Nat × Nat × Nat) : Prop where
  lo : st.needed ≤ m.1
  hi : m.1 ≤ st.next
  rlo : st.beg ≤ m.2.1
  rhi : m.2.1 ≤ st.safe
  ep : m.2.2 ≤ E
  op : Opens S c m.1 m.2.2 m.2.1 (seg st.line (m.2.1 - st.beg) (st.safe - st.beg)) st.next st.safe
structure Good (S : Plate ρ) (c E : Nat) (st : LSt ρ) : Prop where
  hc : 0 < c
  len : S.length = c + 3
  b1 : st.beg ≤ st.safe
  b2 : st.safe ≤ st.beg + st.line.length
  n1 : st.needed ≤ st.next
  n2 : st.next ≤ st.needed + c
  low : ∀ b p, atB S c b = some p → st.next ≤ p.num → p.ep < E
  top : ∀ b p, atB S c b = some p → p.ep ≤ E
  marks : ∀ m ∈ st.marks, MarkOk S c E st m
  cutm : st.cut ∈ st.marks
  cut0 : st.cut.1 = st.needed
  cut1 : st.cut.2.1 = st.beg
def start (cut : Nat × Nat × Nat) : LSt ρ := ⟨[], 0, 0, 0, 0, [cut], cut⟩
theorem good_start {S : Plate ρ} {c : Nat} (hc : 0 < c) (hS : S.length = c + 3) (h : ∀ b, atB S c b = none) : Good S c 1 (start (0, 0, 0) : LSt ρ) where
  hc := hc
  len := hS
  b1 := Nat.le_refl _
  b2 := Nat.zero_le _
  n1 := Nat.le_refl _
  n2 := Nat.zero_le _
  low := fun b p e => by rw [h b] at e; cases e
  top := fun b p e => by rw [h b] at e; cases e
  marks := fun m hm => by
    have e : m = (0, 0, 0) := by simpa [start] using hm
    subst e
    exact ⟨Nat.le_refl _, Nat.le_refl _, Nat.le_refl _, Nat.le_refl _, Nat.zero_le _, [], 0, .nil, (fun p e => by rw [h] at e; cases e), rfl⟩
  cutm := by simp [start]
  cut0 := rfl
  cut1 := rfl

/-! ### append -/
def addR (st : LSt ρ) (r : ρ) : LSt ρ := { st with line := st.line ++ [r] }
theorem seg_add (l : List ρ) (r : ρ) (a b : Nat) (h : b ≤ l.length) : seg (l ++ [r]) a b = seg l a b := by
  unfold seg
  rw [List.take_append_of_le_length h]
theorem good_add {S : Plate ρ} {c E : Nat} {st : LSt ρ} (g : Good S c E st) (r : ρ) : Good S c E (addR st r) where
  hc := g.hc
  len := g.len
  b1 := g.b1
  b2 := by have := g.b2; simp only [addR, List.length_append]; omega
  n1 := g.n1
  n2 := g.n2
  low := g.low
  top := g.top
  marks := fun m hm => by
    obtain ⟨a, b, d, e, f, o⟩ := g.marks m hm
    refine ⟨a, b, d, e, f, ?_⟩
    show Opens S c m.1 m.2.2 m.2.1 (seg (st.line ++ [r]) (m.2.1 - st.beg) (st.safe - st.beg)) st.next st.safe
    rw [seg_add _ _ _ _ (by have := g.b2; omega)]
    exact o
  cutm := g.cutm
  cut0 := g.cut0
  cut1 := g.cut1

/-! ### writes -/
theorem opens_put {S : Plate ρ} {c E mb me mr next safe needed : Nat} {rs : List ρ} {gs : List (List ρ)} {ks : List Nat} {s : Nat} (hc : 0 < c) (hS : S.length = c + 3)
    (o : Opens S c mb me mr rs next safe) (low : ∀ b p, atB S c b = some p → next ≤ p.num → p.ep < E) (top : ∀ b p, atB S c b = some p → p.ep ≤ E) (hme : me ≤ E) (hn : needed ≤ mb) (hmb : mb ≤ next)
    (hk : next + gs.length ≤ needed + c) (hks : ∀ i ∈ ks, i < gs.length) (hs : s ≤ gs.length) (hin : ∀ i, i < s → i ∈ ks) (hout : s = gs.length ∨ s ∉ ks) :
    Opens (put S c (ks.filterMap fun i => (parts next E safe gs)[i]?)) c mb me mr (rs ++ (gs.take s).flatten) (next + s) (safe + (gs.take s).flatten.length) := by
  obtain ⟨ps, l, ch, st, rfl⟩ := o
  have hq : ∀ p ∈ (ks.filterMap fun i => (parts next E safe gs)[i]?), ∃ i ∈ ks, (parts next E safe gs)[i]? = some p ∧ p.num = next + i ∧ i < gs.length := fun p hp => by
    obtain ⟨i, hi, e⟩ := List.mem_filterMap.mp hp
    exact ⟨i, hi, e, (parts_get E gs next safe i p e).1, hks i hi⟩
  -- old blocks
  have old : ∀ b, mb ≤ b → b < next → atB (put S c (ks.filterMap fun i => (parts next E safe gs)[i]?)) c b = atB S c b := fun b h1 h2 => by
    rcases put_cases hc b (ks.filterMap fun i => (parts next E safe gs)[i]?) S hS with ⟨h, _⟩ | ⟨p, hp, h3, _⟩
    · exact h
    · obtain ⟨i, _, _, e, hi⟩ := hq p hp
      have := mod_win2 (n := needed) h3 (by omega) (by omega) (by omega) (by omega)
      omega
  -- new ones
  have new : ∀ i, i < gs.length → i ∈ ks → atB (put S c (ks.filterMap fun i => (parts next E safe gs)[i]?)) c (next + i) = (parts next E safe gs)[i]? := fun i h1 h2 => by
    have hl : i < (parts next E safe gs).length := by rw [parts_length]; exact h1
    have e0 : (parts next E safe gs)[i]? = some (parts next E safe gs)[i] := List.getElem?_eq_getElem hl
    have m0 : (parts next E safe gs)[i] ∈ (ks.filterMap fun i => (parts next E safe gs)[i]?) := List.mem_filterMap.mpr ⟨i, h2, e0⟩
    have n0 := (parts_get E gs next safe i _ e0).1
    rcases put_cases hc (next + i) (ks.filterMap fun i => (parts next E safe gs)[i]?) S hS with ⟨_, h⟩ | ⟨p, hp, h3, h4⟩
    · exact absurd (by rw [n0]) (h _ m0)
    · obtain ⟨j, hj, e, en, hjl⟩ := hq p hp
      have := mod_win2 (n := next) h3 (by omega) (by omega) (by omega) (by omega)
      have ej : j = i := by omega
      subst ej
      rw [h4, e]
  have lost : ∀ i, i < gs.length → i ∉ ks → atB (put S c (ks.filterMap fun i => (parts next E safe gs)[i]?)) c (next + i) = atB S c (next + i) := fun i h1 h2 => by
    rcases put_cases hc (next + i) (ks.filterMap fun i => (parts next E safe gs)[i]?) S hS with ⟨h, _⟩ | ⟨p, hp, h3, h4⟩
    · exact h
    · obtain ⟨j, hj, e, en, hjl⟩ := hq p hp
      have := mod_win2 (n := next) h3 (by omega) (by omega) (by omega) (by omega)
      have ej : j = i := by omega
      subst ej
      exact absurd hj h2
  have le_l : l ≤ E := by
    rcases ch.last with ⟨_, e⟩ | ⟨p, hp, e⟩
    · omega
    · obtain ⟨b, _, _, h, _⟩ := ch.mem p hp
      have := top b p h
      omega
  -- the chain of the new ones
  have chn : ∀ (d i : Nat), i + d = s → ∀ l0, l0 ≤ E → ∃ l', (d = 0 → l' = l0) ∧ (0 < d → l' = E) ∧ Chain (put S c (ks.filterMap fun i => (parts next E safe gs)[i]?)) c (next + i) l0 (safe + (gs.take i).flatten.length) ((parts next E safe gs).drop i |>.take d) (next + s) l' (safe + (gs.take s).flatten.length) := by
    intro d
    induction d with
    | zero =>
      intro i hi l0 _
      have : i = s := by omega
      subst this
      refine ⟨l0, fun _ => rfl, fun h => absurd h (Nat.lt_irrefl _), ?_⟩
      rw [List.take_zero]
      exact .nil
    | succ d ih =>
      intro i hi l0 hl0
      have hlt : i < gs.length := by omega
      have hl : i < (parts next E safe gs).length := by rw [parts_length]; exact hlt
      have e0 : (parts next E safe gs)[i]? = some (parts next E safe gs)[i] := List.getElem?_eq_getElem hl
      obtain ⟨n0, p0, f0, r0⟩ := parts_get E gs next safe i _ e0
      obtain ⟨l', z1, z2, t⟩ := ih (i + 1) (by omega) E (Nat.le_refl _)
      refine ⟨l', fun h => absurd h (by omega), fun _ => ?_, ?_⟩
      · by_cases hd : d = 0
        · exact z1 hd
        · exact z2 (by omega)
      · rw [List.drop_eq_getElem_cons hl, List.take_succ_cons]
        refine .cons ((new i hlt (hin i (by omega))).trans e0) n0 (by rw [p0]; exact hl0) f0 ?_
        rw [p0]
        have e1 : safe + (gs.take i).flatten.length + (parts next E safe gs)[i].recs.length = safe + (gs.take (i + 1)).flatten.length := by
          rw [List.take_add_one, r0]
          simp only [Option.toList_some, List.flatten_append, List.length_append, List.flatten_singleton]
          omega
        rw [e1]
        exact t
  obtain ⟨l', z1, z2, t⟩ := chn s 0 (by omega) l le_l
  simp only [Nat.add_zero, List.take_zero, List.flatten_nil, List.length_nil, List.drop_zero] at t
  refine ⟨ps ++ (parts next E safe gs).take s, l', (ch.congr fun b h1 h2 => old b h1 h2).append t, fun p hp => ?_, ?_⟩
  · rintro ⟨q1, q2, q3⟩
    by_cases hs0 : s = 0
    · subst hs0
      have hl' := z1 rfl
      subst hl'
      simp only [Nat.add_zero, List.take_zero, List.flatten_nil, List.length_nil] at *
      rcases hout with e | e
      · -- no groups
        have hg : gs = [] := List.length_eq_zero_iff.mp e.symm
        subst hg
        have hk0 : ks = [] := by
          cases ks with
          | nil => rfl
          | cons a _ => exact absurd (hks a List.mem_cons_self) (Nat.not_lt_zero _)
        subst hk0
        exact st p hp ⟨q1, q2, q3⟩
      · by_cases hg : gs.length = 0
        · have hg' : gs = [] := List.length_eq_zero_iff.mp hg
          subst hg'
          have hk0 : ks = [] := by
            cases ks with
            | nil => rfl
            | cons a _ => exact absurd (hks a List.mem_cons_self) (Nat.not_lt_zero _)
          subst hk0
          exact st p hp ⟨q1, q2, q3⟩
        · have := lost 0 (by omega) e
          simp only [Nat.add_zero] at this
          rw [this] at hp
          exact st p hp ⟨q1, q2, q3⟩
    · have hl' := z2 (by omega)
      rcases put_cases hc (next + s) (ks.filterMap fun i => (parts next E safe gs)[i]?) S hS with ⟨h, _⟩ | ⟨p', hp', h3, h4⟩
      · rw [h] at hp
        have := low _ p hp (by omega)
        omega
      · rw [h4] at hp
        have hpp : p' = p := Option.some.inj hp
        rw [hpp] at hp'
        obtain ⟨j, hj, e, en, hjl⟩ := hq p hp'
        have ej : j = s := by omega
        rw [ej] at hj hjl
        rcases hout with e' | e'
        · omega
        · exact e' hj
  · unfold recsOf
    rw [List.flatMap_append]
    congr 1
    rw [parts_take]
    exact parts_recs E (gs.take s) next safe

theorem filterMap_range {α : Type} (l : List α) : ((List.range l.length).filterMap fun i => l[i]?) = l := by
  apply List.ext_getElem?
  intro j
  have key : ∀ (k : Nat), k ≤ l.length → ((List.range k).filterMap fun i => l[i]?) = l.take k := by
    intro k
    induction k with
    | zero => intro _; simp
    | succ k ih =>
      intro hk
      rw [List.range_succ, List.filterMap_append, ih (by omega), List.take_add_one]
      have e : l[k]? = some l[k] := List.getElem?_eq_getElem (by omega)
      simp [e]
  rw [key l.length (Nat.le_refl _), List.take_length]
theorem opens_num {S : Plate ρ} {c mb me mr next safe : Nat} {rs : List ρ} (o : Opens S c mb me mr rs next safe) : mb ≤ next ∧ safe = mr + rs.length := by
  obtain ⟨ps, l, ch, _, e⟩ := o
  have := ch.num
  have := ch.sum
  subst e
  omega
/-- of two marks the later one has the later record -/
theorem opens_mono {S : Plate ρ} {c mb me mr mb2 me2 mr2 next safe : Nat} {rs rs2 : List ρ} (o : Opens S c mb me mr rs next safe) (o2 : Opens S c mb2 me2 mr2 rs2 next safe) (h : mb ≤ mb2) : mr ≤ mr2 := by
  obtain ⟨ps, l, ch, _, _⟩ := o
  obtain ⟨ps2, l2, ch2, _, _⟩ := o2
  cases ch2 with
  | nil => have := ch.sum; omega
  | cons h1 h2 h3 h4 t =>
    have := t.num
    obtain ⟨p, a, b, d, _⟩ := ch.get mb2 h (by omega)
    rw [h1] at a
    cases a
    omega

/-! ### a cut -/
def cutAt (st : LSt ρ) (m : Nat × Nat × Nat) : LSt ρ :=
  { line := st.line.drop (m.2.1 - st.beg), beg := m.2.1, needed := m.1, next := st.next, safe := st.safe, marks := st.marks.filter (fun x => decide (m.1 ≤ x.1)), cut := m }
theorem good_cut {S : Plate ρ} {c E : Nat} {st : LSt ρ} (g : Good S c E st) {m : Nat × Nat × Nat} (hm : m ∈ st.marks) : Good S c E (cutAt st m) := by
  have M := g.marks m hm
  have hb2 := g.b2
  have hb1 := g.b1
  have hn2 := g.n2
  refine ⟨g.hc, g.len, M.rhi, ?_, M.hi, ?_, g.low, g.top, fun x hx => ?_, ?_, rfl, rfl⟩
  · simp only [cutAt, List.length_drop]
    have := M.rlo
    omega
  · show st.next ≤ m.1 + c
    have := M.lo
    omega
  · have hx' : x ∈ st.marks.filter (fun x => decide (m.1 ≤ x.1)) := hx
    obtain ⟨h1, h2⟩ := List.mem_filter.mp hx'
    have h2' : m.1 ≤ x.1 := of_decide_eq_true h2
    have Mx := g.marks x h1
    have mono := opens_mono M.op Mx.op h2'
    refine ⟨h2', Mx.hi, mono, Mx.rhi, Mx.ep, ?_⟩
    have e : seg (cutAt st m).line (x.2.1 - m.2.1) (st.safe - m.2.1) = seg st.line (x.2.1 - st.beg) (st.safe - st.beg) := by
      have r1 := M.rlo
      have r2 := M.rhi
      unfold seg cutAt
      rw [List.take_drop, List.drop_drop]
      congr 1
      · omega
      · congr 1; omega
    show Opens S c x.1 x.2.2 x.2.1 (seg (cutAt st m).line (x.2.1 - m.2.1) (st.safe - m.2.1)) st.next st.safe
    rw [e]
    exact Mx.op
  · show m ∈ st.marks.filter (fun x => decide (m.1 ≤ x.1))
    exact List.mem_filter.mpr ⟨hm, by simp⟩

/-! ### a flush, a crash -/
theorem flat_take (gs : List (List ρ)) (s : Nat) : gs.flatten.take (gs.take s).flatten.length = (gs.take s).flatten := by
  have e : gs.flatten = (gs.take s).flatten ++ (gs.drop s).flatten := by rw [← List.flatten_append, List.take_append_drop]
  rw [e, List.take_left']
  rfl
def crashed (st : LSt ρ) (gs : List (List ρ)) (s E' : Nat) : LSt ρ :=
  { st with line := st.line.take (st.safe + (gs.take s).flatten.length - st.beg), next := st.next + s, safe := st.safe + (gs.take s).flatten.length, marks := [st.cut, (st.next + s, st.safe + (gs.take s).flatten.length, E')] }
/-- what is waiting, in groups; or none, where they don't fit -/
def Waits (st : LSt ρ) (gs : List (List ρ)) : Prop := gs = [] ∨ gs.flatten = st.line.drop (st.safe - st.beg)
theorem seg_more {st : LSt ρ} {gs : List (List ρ)} (s a : Nat) (hb1 : st.beg ≤ st.safe) (hb2 : st.safe ≤ st.beg + st.line.length) (w : Waits st gs) (ha : a ≤ st.safe - st.beg) :
    (gs.take s).flatten.length ≤ st.beg + st.line.length - st.safe ∧
    seg (st.line.take (st.safe + (gs.take s).flatten.length - st.beg)) a (st.safe + (gs.take s).flatten.length - st.beg) = seg st.line a (st.safe - st.beg) ++ (gs.take s).flatten := by
  rcases w with w | w
  · subst w
    simp only [List.take_nil, List.flatten_nil, List.length_nil, List.append_nil, Nat.add_zero]
    refine ⟨Nat.zero_le _, ?_⟩
    unfold seg
    rw [List.take_take, Nat.min_self]
  · have h1 : (gs.take s).flatten.length ≤ gs.flatten.length := by
      have e : gs.flatten = (gs.take s).flatten ++ (gs.drop s).flatten := by rw [← List.flatten_append, List.take_append_drop]
      rw [e, List.length_append]
      omega
    have h2 : gs.flatten.length = st.line.length - (st.safe - st.beg) := by rw [w, List.length_drop]
    refine ⟨by omega, ?_⟩
    have h3 := flat_take gs s
    rw [w] at h3
    unfold seg
    rw [List.take_take, Nat.min_self]
    have e1 : st.safe + (gs.take s).flatten.length - st.beg = (st.safe - st.beg) + (gs.take s).flatten.length := by omega
    rw [e1, List.take_add]
    rw [h3]
    rw [List.drop_append_of_le_length (by rw [List.length_take]; omega)]
theorem good_crash {S : Plate ρ} {c E E' : Nat} {st : LSt ρ} {gs : List (List ρ)} {ks : List Nat} {s : Nat} (g : Good S c E st) (w : Waits st gs) (hk : st.next + gs.length ≤ st.needed + c)
    (hks : ∀ i ∈ ks, i < gs.length) (hs : s ≤ gs.length) (hin : ∀ i, i < s → i ∈ ks) (hout : s = gs.length ∨ s ∉ ks)
    (hE : ∀ b p, atB (put S c (ks.filterMap fun i => (parts st.next E st.safe gs)[i]?)) c b = some p → p.ep < E') (hcut : st.cut.2.2 ≤ E') :
    Good (put S c (ks.filterMap fun i => (parts st.next E st.safe gs)[i]?)) c E' (crashed st gs s E') := by
  have hb2 := g.b2
  have hb1 := g.b1
  have C := g.marks _ g.cutm
  obtain ⟨z1, z2⟩ := seg_more (gs := gs) s (st.cut.2.1 - st.beg) hb1 hb2 w (by rw [g.cut1]; omega)
  have hlen : (st.line.take (st.safe + (gs.take s).flatten.length - st.beg)).length = st.safe + (gs.take s).flatten.length - st.beg := by rw [List.length_take]; omega
  have o := opens_put g.hc g.len C.op g.low g.top C.ep C.lo C.hi hk hks hs hin hout
  refine ⟨g.hc, by rw [put_length]; exact g.len, ?_, ?_, ?_, ?_, fun b p e _ => hE b p e, fun b p e => Nat.le_of_lt (hE b p e), fun m hm => ?_, ?_, g.cut0, g.cut1⟩
  · show st.beg ≤ st.safe + _
    omega
  · show st.safe + (gs.take s).flatten.length ≤ st.beg + (st.line.take (st.safe + (gs.take s).flatten.length - st.beg)).length
    omega
  · show st.needed ≤ st.next + s
    have := g.n1
    omega
  · show st.next + s ≤ st.needed + c
    omega
  · have hm' : m = st.cut ∨ m = (st.next + s, st.safe + (gs.take s).flatten.length, E') := by simpa [crashed] using hm
    rcases hm' with rfl | rfl
    · refine ⟨C.lo, ?_, C.rlo, ?_, hcut, ?_⟩
      · show st.cut.1 ≤ st.next + s
        have := C.hi
        omega
      · show st.cut.2.1 ≤ st.safe + _
        have := C.rhi
        omega
      · show Opens _ c st.cut.1 st.cut.2.2 st.cut.2.1 (seg (st.line.take (st.safe + (gs.take s).flatten.length - st.beg)) (st.cut.2.1 - st.beg) (st.safe + (gs.take s).flatten.length - st.beg)) (st.next + s) (st.safe + (gs.take s).flatten.length)
        rw [z2]
        exact o
    · refine ⟨?_, Nat.le_refl _, ?_, Nat.le_refl _, Nat.le_refl _, [], E', .nil, fun p e => ?_, ?_⟩
      · show st.needed ≤ st.next + s
        have := g.n1
        omega
      · show st.beg ≤ st.safe + _
        omega
      · have := hE _ p e
        rintro ⟨_, q, _⟩
        have q' : E' ≤ p.ep := q
        omega
      · show recsOf [] = seg (st.line.take (st.safe + (gs.take s).flatten.length - st.beg)) (st.safe + (gs.take s).flatten.length - st.beg) (st.safe + (gs.take s).flatten.length - st.beg)
        unfold seg recsOf
        rw [List.drop_eq_nil_of_le (by rw [List.length_take]; omega)]
        rfl
  · show st.cut ∈ [st.cut, _]
    simp
def flushed (st : LSt ρ) (gs : List (List ρ)) (E : Nat) : LSt ρ :=
  { st with next := st.next + gs.length, safe := st.beg + st.line.length, marks := st.marks ++ [(st.next + gs.length, st.beg + st.line.length, E)] }
theorem good_flush {S : Plate ρ} {c E : Nat} {st : LSt ρ} {gs : List (List ρ)} (g : Good S c E st) (w : gs.flatten = st.line.drop (st.safe - st.beg)) (hk : st.next + gs.length ≤ st.needed + c) :
    Good (put S c (parts st.next E st.safe gs)) c E (flushed st gs E) := by
  have hb2 := g.b2
  have hb1 := g.b1
  have pl := parts_length E gs st.next st.safe
  have efm := filterMap_range (parts st.next E st.safe gs)
  rw [pl] at efm
  have key : ∀ b p, atB (put S c (parts st.next E st.safe gs)) c b = some p → atB S c b = some p ∨ (p ∈ parts st.next E st.safe gs) := fun b p e => by
    rcases put_cases g.hc b (parts st.next E st.safe gs) S g.len with ⟨h, _⟩ | ⟨p', hp, _, h⟩
    · rw [h] at e; exact .inl e
    · rw [h] at e
      cases e
      exact .inr hp
  have inP : ∀ p ∈ parts st.next E st.safe gs, p.ep = E ∧ p.num < st.next + gs.length := fun p hp => by
    obtain ⟨i, hi, e⟩ := List.mem_iff_getElem.mp hp
    have e' : (parts st.next E st.safe gs)[i]? = some p := by rw [List.getElem?_eq_getElem hi, e]
    obtain ⟨a, b, _, _⟩ := parts_get E gs st.next st.safe i p e'
    rw [pl] at hi
    exact ⟨b, by omega⟩
  have low' : ∀ b p, atB (put S c (parts st.next E st.safe gs)) c b = some p → st.next + gs.length ≤ p.num → p.ep < E := fun b p e hp => by
    rcases key b p e with h | h
    · exact g.low b p h (by omega)
    · have := inP p h; omega
  have tot : st.safe + gs.flatten.length = st.beg + st.line.length := by rw [w, List.length_drop]; omega
  refine ⟨g.hc, by rw [put_length]; exact g.len, ?_, Nat.le_refl _, ?_, hk, low', fun b p e => ?_, fun m hm => ?_, List.mem_append_left _ g.cutm, g.cut0, g.cut1⟩
  · show st.beg ≤ st.beg + _
    omega
  · show st.needed ≤ st.next + gs.length
    have := g.n1
    omega
  · rcases key b p e with h | h
    · exact g.top b p h
    · exact Nat.le_of_eq (inP p h).1
  · have hm' : m ∈ st.marks ∨ m = (st.next + gs.length, st.beg + st.line.length, E) := by simpa [flushed] using hm
    rcases hm' with hm' | rfl
    · have M := g.marks m hm'
      have o := opens_put g.hc g.len M.op g.low g.top M.ep M.lo M.hi hk (ks := List.range gs.length) (fun i hi => List.mem_range.mp hi) (Nat.le_refl _) (fun i hi => List.mem_range.mpr hi) (.inl rfl)
      rw [efm, List.take_length, tot] at o
      refine ⟨M.lo, ?_, M.rlo, ?_, M.ep, ?_⟩
      · show m.1 ≤ st.next + gs.length
        have := M.hi
        omega
      · show m.2.1 ≤ st.beg + st.line.length
        have := M.rhi
        omega
      · have e : seg st.line (m.2.1 - st.beg) (st.beg + st.line.length - st.beg) = seg st.line (m.2.1 - st.beg) (st.safe - st.beg) ++ gs.flatten := by
          obtain ⟨_, z⟩ := seg_more (gs := gs) gs.length (m.2.1 - st.beg) hb1 hb2 (.inr w) (by have := M.rhi; omega)
          rw [List.take_length, tot] at z
          rw [List.take_of_length_le (by omega)] at z
          exact z
        show Opens _ c m.1 m.2.2 m.2.1 (seg st.line (m.2.1 - st.beg) (st.beg + st.line.length - st.beg)) (st.next + gs.length) (st.beg + st.line.length)
        rw [e]
        exact o
    · refine ⟨?_, Nat.le_refl _, ?_, Nat.le_refl _, Nat.le_refl _, [], E, .nil, fun p e => ?_, ?_⟩
      · show st.needed ≤ st.next + gs.length
        have := g.n1
        omega
      · show st.beg ≤ st.beg + _
        omega
      · rintro ⟨q1, q2, _⟩
        have q2' : E ≤ p.ep := q2
        have q1' : p.num = st.next + gs.length := q1
        have := low' _ p e (by omega)
        omega
      · show recsOf [] = seg st.line (st.beg + st.line.length - st.beg) (st.beg + st.line.length - st.beg)
        unfold seg recsOf
        rw [List.drop_eq_nil_of_le (by rw [List.length_take]; omega)]
        rfl

/-! ### groups -/
def used (wt : ρ → Nat) (g : List ρ) : Nat := (g.map fun r => wt r + 1).sum
def pk (wt : ρ → Nat) (gs : List (List ρ)) (r : ρ) : List (List ρ) :=
  match gs.getLast? with
  | none => [[r]]
  | some g => if used wt g + wt r + 1 > 19 then gs ++ [[r]] else gs.dropLast ++ [g ++ [r]]
def pack (wt : ρ → Nat) (rs : List ρ) : List (List ρ) := rs.foldl (pk wt) []
theorem pack_snoc (wt : ρ → Nat) (rs : List ρ) (r : ρ) : pack wt (rs ++ [r]) = pk wt (pack wt rs) r := by
  unfold pack
  rw [List.foldl_append]
  rfl
theorem snoc_of {α : Type} {l : List α} {x : α} (h : l.getLast? = some x) : l = l.dropLast ++ [x] := by
  have hne : l ≠ [] := fun z => by rw [z] at h; cases h
  have e := List.getLast?_eq_some_getLast hne
  rw [h] at e
  have e2 := List.dropLast_concat_getLast hne
  rw [← Option.some.inj e] at e2
  exact e2.symm
theorem pk_facts (wt : ρ → Nat) (gs : List (List ρ)) (r : ρ) (n : Nat) (h0 : ∀ g ∈ gs, g ≠ []) (h1 : gs.length ≤ n) : (pk wt gs r).flatten = gs.flatten ++ [r] ∧ (∀ g ∈ pk wt gs r, g ≠ []) ∧ (pk wt gs r).length ≤ n + 1 ∧ pk wt gs r ≠ [] := by
  unfold pk
  cases e : gs.getLast? with
  | none =>
    have : gs = [] := by simpa using e
    subst this
    simp
  | some g =>
    have eg := snoc_of e
    dsimp only
    by_cases q : used wt g + wt r + 1 > 19
    · rw [if_pos q]
      refine ⟨by simp, fun x hx => ?_, by simp; omega, by simp⟩
      rcases List.mem_append.mp hx with z | z
      · exact h0 x z
      · have : x = [r] := by simpa using z
        rw [this]; simp
    · rw [if_neg q]
      refine ⟨?_, fun x hx => ?_, ?_, by simp⟩
      · conv => rhs; rw [eg]
        simp
      · rcases List.mem_append.mp hx with z | z
        · exact h0 x ((List.dropLast_sublist gs).subset z)
        · have : x = g ++ [r] := by simpa using z
          rw [this]; simp
      · have := congrArg List.length eg
        simp only [List.length_append, List.length_cons, List.length_nil] at this ⊢
        omega
theorem pack_facts (wt : ρ → Nat) (rs : List ρ) : (pack wt rs).flatten = rs ∧ (∀ g ∈ pack wt rs, g ≠ []) ∧ (pack wt rs).length ≤ rs.length := by
  have key : ∀ (n : Nat) (rs : List ρ), rs.length = n → (pack wt rs).flatten = rs ∧ (∀ g ∈ pack wt rs, g ≠ []) ∧ (pack wt rs).length ≤ rs.length := by
    intro n
    induction n with
    | zero =>
      intro rs h
      have : rs = [] := List.length_eq_zero_iff.mp h
      subst this
      simp [pack]
    | succ n ih =>
      intro rs h
      have hne : rs ≠ [] := fun z => by rw [z] at h; cases h
      have e : rs = rs.dropLast ++ [rs.getLast hne] := (List.dropLast_concat_getLast hne).symm
      have hl : rs.dropLast.length = n := by rw [List.length_dropLast]; omega
      obtain ⟨a, b, d⟩ := ih rs.dropLast hl
      rw [e, pack_snoc]
      obtain ⟨a1, b1, d1, _⟩ := pk_facts wt (pack wt rs.dropLast) (rs.getLast hne) n b (by omega)
      refine ⟨by rw [a1, a], b1, ?_⟩
      rw [List.length_append, hl]
      simpa using d1
  exact key _ rs rfl
theorem pack_nil (wt : ρ → Nat) (rs : List ρ) : pack wt rs = [] ↔ rs = [] := by
  obtain ⟨a, b, d⟩ := pack_facts wt rs
  constructor
  · intro h
    rw [h] at a
    exact a.symm
  · intro h
    subst h
    rfl
end
end RM
set_option Elab.async false
set_option linter.all false
set_option maxRecDepth 100000
set_option maxHeartbeats 4000000
/-! KLayA: promises that hold where no repr is under way (guards), repr of data, some small rules. -/
namespace L2
open PySem PySem.Spec PyProof.Rows
/-! ### promises under «no guard is on the stack» -/
structure FnG (P : Program) (w : World) (K : PySem.W.Frag) (mg : Str → Option Value) (base : Heap) (CX : CXT) (k : Nat) (f : Addr) (fd : FuncData) (ps : List Str) (sp : Sp) : Prop where
  len : ∀ vs H Q E, sp vs H Q E → vs.length = ps.length
  run : ∀ (A : Around) (outer : List Env) (s : Shared) (H : Hp) (args : Args) (us : List Value) (vs : List V) (Q : VK) (E : XK), A.guards = some [] → Room k A → Env0 P w K mg base A outer s H → BindsTo s fd args (ps.zip us) → Vals vs us → sp vs H Q E →
    codeAny (model P w) A (.call (.ref f) args) (CR CX outer P w H s Q E) s
section
variable {X : Cx} {CX : CXT} {k : Nat} {f C : Addr} {fd : FuncData} {ps : List Str} {sp : Sp} {dvs : List V} {ds : List Value} {E : XK} {x m : Str} {p pos apos : Pos} {e o : Expr} {es : List Expr} {ta : TE} {t : TA}
theorem run_fnG {pins : List (Addr × Obj)} {σ : St} {H : Hp} {s : Shared} {Q : VK} {us : List Value} {vs : List V} (F : FnG X.prog X.w X.K X.mg X.base CX k f fd ps sp) (hgd : X.A.guards = some []) (hr : Room k X.A) (hb : Binds X.K fd ps ds) (hd : Vals dvs ds) (hx : Passes CX X E)
    (I : Inv X pins σ H s) (r : Vals vs us) (h : sp (vs ++ dvs) H Q E) : wpAny (model X.prog X.w) X.A (call (.ref f) us) (EP X pins σ Q) X.xe s := by
  have r2 : Vals (vs ++ dvs) (us ++ ds) := r.append hd
  have hl : (us ++ ds).length = ps.length := by rw [← r2.length]; exact F.len _ _ _ _ h
  refine wpAny_call (codeAny_mono (F.run X.A X.stack s H ⟨us, []⟩ (us ++ ds) (vs ++ dvs) Q E hgd hr I.env0 (hb s us I.kIn hl) r2 h) fun r s' hq => ?_)
  cases r with
  | error e => exact hx pins σ H s e s' I hq
  | ok fl =>
    cases fl with
    | ret u => exact I.after hq
    | next => exact False.elim hq
    | brk => exact False.elim hq
    | cont => exact False.elim hq
theorem pe_callG (F : FnG X.prog X.w X.K X.mg X.base CX k f fd ps sp) (hgd : X.A.guards = some []) (hr : Room k X.A) (hg : Gl X x) (hm : X.mg x = some (.ref f)) (hk : PySem.W.keepIn X.K (.ref f) = true) (hb : Binds X.K fd ps ds) (hd : Vals dvs ds) (hx : Passes CX X E)
    (ha : PA X (e :: es) t) (hdb : (x == ("__debug__" : Str)) = false := by decide) (he : starEach (e :: es) X.env = (false, eval e X.env) :: starEach es X.env := by rfl) (hpl : (backTo pos (starEach es X.env)).any (·.1) = false := by rfl) :
    PE X (.Call (.Name x p) (e :: es) [] pos) (tCall sp dvs E t) := by
  refine ⟨fun pins s σ H Q I h => ?_⟩
  refine wpAny_Call_Name_kw (ld_glob I hg hm ?_ hdb)
  refine PySem.W.callWith_K (h₀ := X.base) I.ok.mod.kin hk (thn (ha.run pos pins s σ H _ I h) fun us s1 ⟨vs, H1, I1, r, q⟩ => ⟨I1.kIn, ?_⟩) he hpl
  exact run_fnG F hgd hr hb hd hx I1 r q
end
theorem fn_ofG {CX : CXT} {P : Program} {w : World} {K : PySem.W.Frag} {mg : Str → Option Value} {base : Heap} {k : Nat} {f : Addr} {name qual : Str} {params : Arguments} {body : List Stmt} {scope : Scope} {dV kV doc pm cdv ct oc : Value} {an od : Option Addr}
    {osl : Array (Option Value)} {N ps : List Str} {sp : Sp} (lk : K.lookup f = some ⟨oc, od, .func (PySem.W.fnOf name qual params body scope dV kV doc pm an cdv ct), osl⟩) (hcd : PySem.W.codeIn K cdv qual = true) (S : FnScope N ps scope)
    (len : ∀ vs H Q E, sp vs H Q E → vs.length = ps.length)
    (hbody : ∀ (A : Around) (outer : List Env) (s : Shared) (H : Hp) (vs : List V) (Q : VK) (E : XK), (A.deeper (envOfC qual scope s.heap.objs.size f cdv)).guards = some [] → Room k (A.deeper (envOfC qual scope s.heap.objs.size f cdv)) → sp vs H Q E →
      ∃ t, PSs (cxOf CX P w K mg base N qual scope f cdv A outer s H E) body t ∧ t { nx := fun _ H' => Q .non H', rt := Q } (start N vs) H) :
    FnG P w K mg base CX (k + 1) f (PySem.W.fnOf name qual params body scope dV kV doc pm an cdv ct) ps sp := by
  refine ⟨len, fun A outer s H args us vs Q E hgd hr e0 hb r hsp => ?_⟩
  have hl := len _ _ _ _ hsp
  have KX : K.In s.heap := e0.mod.kin.keeps fun b o e => (e0.bs b o e).1
  have lim : s.heap.NoLimit := e0.mod.nolimit.keeps fun b o e => (e0.bs b o e).1
  have hkind : ∀ y ∈ ps.zip us, scope.names.lookup y.1 = some .local ∨ (scope.names.lookup y.1 = some .cell ∧ ((cellsFrom (s.heap.objs.size + 1) scope.names []).lookup y.1).isSome = true) := fun ⟨n, v⟩ hy => by
    rcases S.par n (List.of_mem_zip hy).1 with q | q
    · exact .inl q
    · exact .inr ⟨q, PySem.W.cellsFrom_some _ _ _ (.inl q)⟩
  refine codeAny_call_function hr.depth (KX _ _ lk) rfl S.co S.gen rfl (PySem.W.codeRec_of KX hcd) (hb _ _ _ _ ?_)
  refine wpAny_newFunctionEnv_cells S.kind hkind fun env he s1 x => ?_
  subst he
  refine ⟨lim.keeps x.toInCall.keep, codeAny_func ?_⟩
  obtain ⟨t, ht, hq⟩ := hbody A outer s H vs Q E hgd (hr.deeper _) hsp
  have I : Inv (cxOf CX P w K mg base N qual scope f cdv A outer s H E) [] (start N vs) H s1 := inv_start S hr.hd e0 hl r x
  refine wpAny_mono (ht.run [] s1 (start N vs) H _ I hq) (fun fl s' hs => ?_) fun e s' hs => hs
  have fin : ∀ {σ' : St} {H' : Hp} {v : V} {u : Value}, Inv (cxOf CX P w K mg base N qual scope f cdv A outer s H E) [] σ' H' s' → RelV v u → Q v H' → CE outer P w H s Q u s' :=
    fun {σ' H' v u} J rv q => ⟨v, H', J.os, J.bare, J.base, J.hok, rv, q⟩
  cases fl with
  | ret u =>
    obtain ⟨v, σ', H', J, rv, q⟩ := hs
    exact fin J rv q
  | next =>
    obtain ⟨σ', H', J, q⟩ := hs
    exact fin (v := V.non) (u := Value.none) J rfl q
  | brk =>
    obtain ⟨_, _, _, q⟩ := hs
    exact False.elim q
  | cont =>
    obtain ⟨_, _, _, q⟩ := hs
    exact False.elim q
/-- a def whose callers may be anywhere where no guard stands -/
theorem okG {CX : CXT} {P : Program} {w : World} {K : PySem.W.Frag} {mg : Str → Option Value} {base : Heap} {x qual : Str} {st : Stmt} {f : Addr} {fd : FuncData} {dvs : List V} {kws : List (Str × V)} {N ps : List Str} {k : Nat} {sp : Sp} (F : FunD K x qual (defArgs st) (defBody st) (defScope st) dvs kws f fd) (S : FnScope N ps (defScope st)) (len : ∀ vs H Q E, sp vs H Q E → vs.length = ps.length)
    (hbody : ∀ (cdv : Value) (A : Around) (outer : List Env) (s : Shared) (H : Hp) (vs : List V) (Q : VK) (E : XK), (A.deeper (envOfC qual (defScope st) s.heap.objs.size f cdv)).guards = some [] → Room k (A.deeper (envOfC qual (defScope st) s.heap.objs.size f cdv)) → sp vs H Q E →
      ∃ t, PSs (cxOf CX P w K mg base N qual (defScope st) f cdv A outer s H E) (defBody st) t ∧ t { nx := fun _ H' => Q .non H', rt := Q } (start N vs) H) : FnG P w K mg base CX (k + 1) f fd ps sp := by
  obtain ⟨oc, od, dV, kV, doc, pm, an, cdv, ct, osl, rfl, lk, hcd, _, _⟩ := F.ex
  exact fn_ofG lk hcd S len fun A outer s H vs Q E hgd hr hsp => hbody cdv A outer s H vs Q E hgd hr hsp
theorem FnG.of {P : Program} {w : World} {K : PySem.W.Frag} {mg : Str → Option Value} {base : Heap} {CX : CXT} {k : Nat} {f : Addr} {fd : FuncData} {ps : List Str} {sp : Sp} (F : FnOk P w K mg base CX k f fd ps sp) : FnG P w K mg base CX k f fd ps sp :=
  ⟨F.len, fun A outer s H args us vs Q E _ => F.run A outer s H args us vs Q E⟩

/-! ### repr of data -/
def rRepr (K : PySem.W.Frag) : List V → Hp → VK → Prop := fun xs H Q => ∃ (a : Addr) (d : PyData), xs = [.ref a] ∧ Dp K H (.ref a) d ∧ d.showable = true ∧ d.hasDict = false ∧ d.depth ≤ 20 ∧ d.shown.length ≤ sizeLine ∧ Q (.str d.shown) H
theorem call_repr {X : Cx} (hgd : X.A.guards = some []) (hu : X.A.units + 64 < cLine) : CallR X (.builtin "repr") (rRepr X.K) := by
  intro pins s σ H xs us Q I r h
  obtain ⟨a, d, rfl, hd, h1, h2, h3, h4, q⟩ := h
  obtain ⟨u, rfl, ru⟩ := vals1 r
  obtain ⟨as, rd⟩ := Dp.reads I d _ _ hd ru
  cases ru
  refine repr_of_reads' rd h1 (fun z => by rw [h2] at z; cases z) hgd (by omega) (fun _ _ e => e) (fun h' t tk hk => ?_) h4
  exact ⟨.str d.shown, H, I.kept (h' := h') (t' := tk) hk, ⟨t, rfl⟩, q⟩
end L2
set_option Elab.async false
set_option linter.all false
set_option maxRecDepth 100000
set_option maxHeartbeats 4000000
/-! KLayB: own exception classes over any of the library's bases, with an __init__ that calls the base's and stores one field or none. Turned from the worked module of classes over ValueError. -/
namespace PySem
namespace OEG
open PySem.W PySem.Calls PyProof.Rows PySem.HandSPX
open Builtin Builtin.ObjectAttr
/-- what the library knows of the base -/
structure Base (B newId initId : String) (bmB : List Value) : Prop where
  base : ExcBaseFacts B newId initId bmB
  pass : ∀ self, refuseLoop self "__setattr__" bmB = pure ()
  obj : bmB.contains (.type "object") = true
  ty : typeOf (.type B) = pure (.type "type")
  stub : Manifest.isStub B = false
  hand : handedIn (.builtin initId) = true
abbrev bmO : List Value := [.type "OverflowError", .type "ArithmeticError", .type "Exception", .type "BaseException", .type "object"]
abbrev bmL : List Value := [.type "LookupError", .type "Exception", .type "BaseException", .type "object"]
abbrev bmV : List Value := [.type "ValueError", .type "Exception", .type "BaseException", .type "object"]
abbrev bmR : List Value := [.type "RuntimeError", .type "Exception", .type "BaseException", .type "object"]
theorem baseO : Base "OverflowError" "OverflowError.__new__" "OverflowError.__init__" bmO := ⟨F.excBase_OverflowError, F.store_OverflowError.passes, by decide +kernel, by kernel_rfl, by decide +kernel, by decide +kernel⟩
theorem baseL : Base "LookupError" "LookupError.__new__" "LookupError.__init__" bmL := ⟨F.excBase_LookupError, F.store_LookupError.passes, by decide +kernel, by kernel_rfl, by decide +kernel, by decide +kernel⟩
theorem baseV : Base "ValueError" "ValueError.__new__" "ValueError.__init__" bmV := ⟨F.excBase_ValueError, F.store_ValueError.passes, by decide +kernel, by kernel_rfl, by decide +kernel, by decide +kernel⟩
theorem baseR : Base "RuntimeError" "RuntimeError.__new__" "RuntimeError.__init__" bmR := ⟨F.excBase_RuntimeError, F.store_RuntimeError.passes, by decide +kernel, by kernel_rfl, by decide +kernel, by decide +kernel⟩
section
variable {prog : Program} {w : World} {A : Around} {E : Value → Shared → Prop} {R : Result → Shared → Prop} {hp : Heap} {g : Array GenState} {d : Drawn} {t : Nat} {os : OsState} {B newId initId : String} {bmB : List Value}
theorem exc_osaG {K : W.Frag} {name : Str} {tk : Tok} {v : Value} {x C : Addr} {fv : Array Value} {cd : ClassData} (F : Base B newId initId bmB)
    (X : K.In hp) (hx : hp.get? x = some { cls := .ref C, data := .fields fv }) (hcd : W.clsIn K C = some cd) (hm : cd.mro = .ref C :: bmB) (hh : cd.hasDict = true) (ha : W.findIn K (.ref C) name = some none)
    (hq : ∀ h' tk' dx, (∀ b o, b ≠ x → hp.get? b = some o → h'.get? b = some o) → hp.objs.size ≤ dx → dx ≠ x → h'.get? x = some { cls := .ref C, dict := some dx, data := .fields fv } →
      h'.Ns1 dx (fun y => if y = name then some v else none) → R (.ok (.ret .none)) ⟨h', g, d, tk', os⟩) :
    codeAny (model prog w) A (.call (.builtin "object.__setattr__") ⟨[.ref x, .str name tk, v], []⟩) R ⟨hp, g, d, t, os⟩ := by
  have I : W.InstAt hp x { cls := .ref C, data := .fields fv } C none := ⟨hx, rfl, rfl, trivial⟩
  have ne : cd.mro.isEmpty = false := by rw [hm]; rfl
  have hob : cd.mro.contains (.type "object") = true := by rw [hm, List.contains_cons, F.obj, Bool.or_true]
  have hxs : x ≠ hp.objs.size := Nat.ne_of_lt (Heap.lt_size hx)
  have sub : W.Looks (model prog w) hp (isInstance (.ref x) (.type "object")) true := I.type.andThen (W.looks_mroIn X (by unfold W.mroIn; rw [hcd, Option.bind_some, if_neg (by rw [ne]; decide), hob]))
  refine codeAny_call_builtin PySem.F.store_object.slot.plain PySem.F.store_object.entry (@W.check_slot (model prog w) _ _ ⟨hp, g, d, t, os⟩ "object.__setattr__" "object" "__setattr__" (.ref x) [.str name tk, v] [] _ PySem.F.store_object.kind PySem.F.store_object.split sub (PySem.F.store_object.args (.ref x) (.str name tk) v) ?_)
  have hmr : W.Looks (model prog w) hp (mroOf (.ref C)) cd.mro := (W.looks_clsIn X hcd).andThen .now
  have L3 : W.Looks (model prog w) hp (storeTaker? none) none := .now
  have hcls : W.Looks (model prog w) hp (classData C) cd := W.looks_clsIn X hcd
  rw [W.osa_eq, refuse_eq]
  refine wpAny_bind (wpAny_bind (I.type.at (wpAny_bind (hmr.at ?_))))
  rw [hm, refuseLoop_ref, F.pass]
  refine wpAny_pure (wpAny_bind (I.type.at (wpAny_bind ((W.looks_findIn X ha).at (wpAny_bind (L3.at ?_))))))
  show wpAny _ _ (storeInOwnDict (.ref x) (.ref C) (.str name tk) name v false) _ _ _
  obtain ⟨nm, bs, mro, ns, qn, hd, sn, sb, ab, col, del⟩ := cd
  dsimp only at hh
  subst hh
  unfold storeInOwnDict ownDictForStores
  repeat (first | with_reducible refine store_in_new ?_ ?_ | with_reducible refine wpAny_loadPart_at hx ?_ | with_reducible refine hcls.at ?_ | wp_step)
  · exact ⟨_, #[], _, (Heap.get?_update_ne _ _ _ _ hxs.symm).trans (Heap.get?_push_at rfl rfl), rfl, fun e he => absurd he (by simp), fun _ => rfl⟩
  · intro h' tk' hn' hs
    have hx₁ : (hp.push { cls := .type "dict", data := .dict #[] }).get? x = some { cls := .ref C, data := .fields fv } := Heap.get?_push_of_some _ hx
    refine hq h' tk' hp.objs.size (fun b o hb ho => ?_) (Nat.le_refl _) hxs.symm ?_ hn'
    · exact (hs.2 b (Nat.ne_of_lt (Heap.lt_size ho))).trans ((Heap.get?_update_ne _ _ _ _ hb).trans (Heap.get?_push_of_some _ ho))
    · exact (hs.2 x hxs).trans (Heap.get?_update_self _ hx₁ rfl)
end
end OEG
end PySem

namespace L2
open PySem PySem.Spec PyProof.Rows
/-- what the written part says of the class at C -/
structure OxG (K : PySem.W.Frag) (C : Addr) (newId : String) (bmB : List Value) : Prop where
  cls : ∃ nm q N bs sn sub ab col dd k0 k1 k2 k3 k5, K.lookup C = some (excClassObj nm q C N bs bmB true sn sub ab col dd k0 k1 k2 k3 k5 newId)
  sa : PySem.W.findIn K (.ref C) "__setattr__" = some (some (.builtin "object.__setattr__"))
  exC : PySem.W.subIn K (.ref C) (.type "BaseException") = some true
  tyC : PySem.W.typeIn K (.ref C) = some (.type "type")
  kC : PySem.W.keepIn K (.ref C) = true
section
variable {X : Cx} {pins : List (Addr × Obj)} {σ : St} {H : Hp} {s : Shared} {a C dx : Addr} {f : Str} {y : V} {u : Value} {fs : List (Str × V)} {Q : Unit → Shared → Prop} {E : Value → Shared → Prop} {A : Around} {B newId initId : String} {bmB : List Value}
theorem oxg_new (F : PySem.OEG.Base B newId initId bmB) (T : OxG X.K C newId bmB) (I : Inv X pins σ H s) (e : H a = some (exo a C none)) (hno : PySem.W.findIn X.K (.ref C) f = some none) (ry : RelV y u)
    (h : ∀ dx s', H dx = none → dx ≠ a → Inv X pins σ (upd (upd H dx (exd dx [(f, y)])) a (exo a C (some dx))) s' → Q () s') : wpAny (model X.prog X.w) A (setAttr (.ref a) f u) Q E s := by
  obtain ⟨nm, q, N, bs, sn, sub, ab, col, dd, k0, k1, k2, k3, k5, hC⟩ := T.cls
  have hcl : PySem.W.clsIn X.K C = some { name := nm, bases := bs, mro := .ref C :: bmB, ns := N, qualname := q, hasDict := true, slotNames := sn, subclasses := sub, abstract := ab, collection := col, hasDel := false } := by unfold PySem.W.clsIn; rw [hC] <;> rfl
  obtain ⟨t1, ho⟩ := exo_at I.hok e
  obtain ⟨hp, g, d, t, os⟩ := s
  refine PySem.W.set_plain I.kIn (ox := { cls := .ref C, dict := none, data := .fields #[.ref t1, .none, .none, .none, .bool false, .none] }) (od := none) ⟨ho, rfl, rfl, trivial⟩ T.sa ?_
  refine PySem.OEG.exc_osaG F I.kIn ho hcl rfl rfl hno (fun h' tk' dx k dn dne hx hn => ?_)
  have hnd : H dx = none := I.hok.fresh dn
  have nd : ∀ {b : Addr} {o : Obj}, hp.get? b = some o → b ≠ dx := fun {b o} q => Nat.ne_of_lt (Nat.lt_of_lt_of_le (Heap.lt_size q) dn)
  have na : ∀ {b : Addr}, H b = none → b ≠ a := fun {b} n z => by
    rw [z, e] at n
    cases n
  have Un1 : Un X.fs [] H (upd (upd H dx (exd dx [(f, y)])) a (exo a C (some dx))) hp h' := {
    keep := fun b o q n _ _ => k b o (na n) q
    slot := fun b o q n _ _ => ⟨o.slots, k b o (na n) q⟩
    free := fun b o q n _ => by rw [upd_ne (na n), upd_ne (nd q)]; exact n
    there := fun b o q _ => by
      by_cases hb : b = a
      · exact ⟨_, by rw [hb]; exact hx⟩
      · exact ⟨o, k b o hb q⟩
    tups := fun b xs q => by rw [upd_ne (at_ne e q exo_tup), upd_ne (ne_of_none q hnd)]; exact q
    frzs := fun b o v q => by rw [upd_ne (at_ne e q exo_frz), upd_ne (ne_of_none q hnd)]; exact q
    tbls := fun b ps q => ⟨#[], by rw [upd_ne (at_ne e q exo_tbl), upd_ne (ne_of_none q hnd), q]; simp⟩ }
  refine h dx _ hnd dne (I.un (t' := tk') Un1 fun b o q => ?_)
  by_cases hb : b = a
  · subst hb
    rw [upd_same] at q
    cases q
    exact exo_ok hx
  · rw [upd_ne hb] at q
    by_cases hd : b = dx
    · subst hd
      rw [upd_same] at q
      cases q
      exact exd_ok hn (relO_put (fs := []) ry fun g => True.intro)
    · rw [upd_ne hd] at q
      exact (I.hok b o q).stay (fun c v hc z => k c v (by
          rcases hc with hc | hc
          · rw [hc]
            exact hb
          · exact at_ne e hc exo_own) z)
        (fun c hc => by rw [upd_ne (at_ne e hc exo_own), upd_ne (ne_of_none hc hnd)]; exact hc) (fun c xs hc => by rw [upd_ne (at_ne e hc exo_tup), upd_ne (ne_of_none hc hnd)]; exact hc)
theorem oxg_init {us : List Value} {Q : Value → Shared → Prop} (F : PySem.OEG.Base B newId initId bmB) (T : OxG X.K C newId bmB) (I : Inv X pins σ H s) (e : H a = some (exo a C none)) (hl : us.length ≤ sizeLine) (h : ∀ s', Inv X pins σ H s' → Q .none s') :
    wpAny (model X.prog X.w) A (call (.builtin initId) (.ref a :: us)) Q E s := by
  obtain ⟨nm, q, N, bs, sn, sub, ab, col, dd, k0, k1, k2, k3, k5, hC⟩ := T.cls
  obtain ⟨t1, ho⟩ := exo_at I.hok e
  obtain ⟨hp, g, d, t, os⟩ := s
  refine wpAny_call (PySem.HandSPX.init_base F.base (fun Y => rfl) (I.kIn _ _ hC) ho hl fun h' t2 k hx => ?_)
  have J := I.write (t' := t) (x := a) (e := a) (o := exo a C none) (by rw [e]; exact True.intro) (.inl rfl) k ⟨_, hx⟩ (exo_ok hx)
  have eu : upd H a (exo a C none) = H := by
    funext b
    by_cases hb : b = a
    · rw [hb, upd_same, e]
    · rw [upd_ne hb]
  rw [eu] at J
  exact h _ J
end
/-- B.__init__(self, ..) -/
def tBi (newId : String) (bmB : List Value) (K : PySem.W.Frag) (ta : TA) : TE := fun σ H Q => ta σ H fun vs H1 => ∃ (a C : Addr) (ws : List V), vs = .ref a :: ws ∧ ws.length ≤ 1000 ∧ OxG K C newId bmB ∧ H1 a = some (exo a C none) ∧ Q .non H1
/-- self.f = e, the only field -/
def tOs1 (newId : String) (bmB : List Value) (K : PySem.W.Frag) (f : Str) (to te : TE) : TS := fun D σ H => te σ H fun y H1 => to σ H1 fun x H2 => ∃ a C : Addr, x = .ref a ∧ OxG K C newId bmB ∧ PySem.W.findIn K (.ref C) f = some none ∧
  H2 a = some (exo a C none) ∧ ∀ dx, H2 dx = none → dx ≠ a → D.nx σ (upd (upd H2 dx (exd dx [(f, y)])) a (exo a C (some dx)))
section
variable {X : Cx} {o e : Expr} {es : List Expr} {to te : TE} {ta : TA} {f : Str} {p p' p1 p2 pos : Pos} {B newId initId : String} {bmB : List Value} {bn : Str}
theorem pe_binit {pl : Sem Bool} (F : PySem.OEG.Base B newId initId bmB) (hg : Gl X bn) (hm : X.mg bn = none) (hv : bootBuiltins bn = some (.type B)) (vV : PySem.W.findCls X.K (.type B) (.type "type") "__init__" = some (.val (.builtin initId))) (ha : PA X (e :: es) ta)
    (hn : bn ≠ "__name__" := by decide) (hd : (bn == ("__debug__" : Str)) = false := by decide)
    (hc : eval (.Call (.Attribute (.Name bn p1) "__init__" p2) (e :: es) [] pos) X.env = (do
      let ov ← eval (.Name bn p1) X.env
      standAt p2.atName
      let (f, first) ← holding [ov] (getMethod ov "__init__" pl)
      callWith pos f first (backTo pos (starEach (e :: es) X.env)) (backToKw pos (keywordEach [] X.env))) := by rfl)
    (he : starEach (e :: es) X.env = (false, eval e X.env) :: starEach es X.env := by rfl) (hpl : (backTo pos (starEach es X.env)).any (·.1) = false := by rfl) :
    PE X (.Call (.Attribute (.Name bn p1) "__init__" p2) (e :: es) [] pos) (tBi newId bmB X.K ta) := by
  refine ⟨fun pins s σ H Q I h => ?_⟩
  refine PySem.W.methodCall_KW (ld_blt I hg hm hv ?_ hn hd) hc
  obtain ⟨m, fr⟩ := I.fr
  refine PySem.W.method_type fr I.ok.mod.kin F.ty F.stub vV F.hand ?_
  show wpAny _ _ (callWith pos (Value.builtin initId) [] (backTo pos (starEach (e :: es) X.env)) []) _ _ _
  refine PyProof.Rows.callWith_method1 (thn (ha.run pos pins _ σ H _ (I.tok _) h) fun us s1 ⟨vs, H1, I1, r1, a, C, ws, ev, hl, T, ea, q⟩ => ?_) he hpl
  subst ev
  cases r1 with
  | @cons _ u0 _ ur ra rw' =>
    obtain rfl : u0 = Value.ref a := ra
    have hlen : ur.length ≤ sizeLine := by
      rw [← Paired.length rw', sizeLine_eq]
      omega
    exact oxg_init F T I1 ea hlen fun s' J => ⟨.non, H1, J, rfl, q⟩
theorem ps_os1 (F : PySem.OEG.Base B newId initId bmB) (ho : PE X o to) (he : PE X e te) (hs : swapsWith e (some (.Attribute o f p')) pos.line X.env = pure false := by rfl) : PS X (.Assign [.Attribute o f p'] e pos) (tOs1 newId bmB X.K f to te) := by
  refine ⟨fun pins s σ H D I h => ?_⟩
  refine plainObj_wpAny_Assign_Attribute (thn (he.run pins s σ H _ I h) fun v s1 ⟨y, H1, I1, r1, q1⟩ => thn (ho.run pins s1 σ H1 _ I1 q1) fun u s2 ⟨x, H2, I2, r2, a, C, ex, T, hno, ea, q⟩ => ?_) hs
  subst ex
  obtain rfl : u = Value.ref a := r2
  exact oxg_new F T I2 ea hno r1 fun dx s' n ne J => ⟨σ, _, J, q dx n ne⟩
/-- C(e, ..), C's own __init__ keeping sp; one field -/
def tMkF (C : Addr) (sp : Sp) (ta : TA) : St → Hp → XK → Prop := fun σ H Q => ta σ H fun vs H1 => vs.length ≤ 1000 ∧ ∀ a, H1 a = none → sp (.ref a :: vs) (upd H1 a (exo a C none))
  (fun v H2 => v = .non ∧ ∃ (d : Addr) (fs : List (Str × V)), H2 a = some (exo a C (some d)) ∧ H2 d = some (exd d fs) ∧ H1 d = none ∧ Q (.ref C) (some d) (upd (del H2 a) d (.xd fs))) (fun _ _ _ => False)
/-- C(), no field -/
def tMkN (C : Addr) (sp : Sp) : St → Hp → XK → Prop := fun σ H Q => ∀ a, H a = none → sp [.ref a] (upd H a (exo a C none)) (fun v H2 => v = .non ∧ H2 = upd H a (exo a C none) ∧ Q (.ref C) none H) (fun _ _ _ => False)
theorem pmk_fld {CX : CXT} {x : Str} {C fI : Addr} {k : Nat} {fd : FuncData} {ps : List Str} {sp : Sp} (F : PySem.OEG.Base B newId initId bmB) (T : OxG X.K C newId bmB) (iC : PySem.W.findIn X.K (.ref C) "__init__" = some (some (.ref fI))) (tI : PySem.W.typeIn X.K (.ref fI) = some (.type "function"))
    (F1 : FnOk X.prog X.w X.K X.mg X.base CX k fI fd ps sp) (hr : Room (k + 1) X.A) (hb : Binds X.K fd ps []) (hx : Passes CX X (fun _ _ _ => False)) (hg : Gl X x) (hm : X.mg x = some (.ref C)) (ha : PA X (e :: es) ta)
    (hdb : (x == ("__debug__" : Str)) = false := by decide) (he : starEach (e :: es) X.env = (false, eval e X.env) :: starEach es X.env := by rfl) (hpl : (backTo pos (starEach es X.env)).any (·.1) = false := by rfl) :
    PMk X (.Call (.Name x p) (e :: es) [] pos) (tMkF C sp ta) := by
  intro pins s σ H Q I h
  obtain ⟨nm, q, N, bs, sn, sub, ab, col, dd, k0, k1, k2, k3, k5, hC⟩ := T.cls
  refine wpAny_Call_Name_kw (ld_glob I hg hm ?_ hdb)
  refine PySem.W.callWith_K (h₀ := X.base) I.ok.mod.kin T.kC (thn (ha.run pos pins s σ H _ I h) fun us s1 ⟨vs, H1, I1, r1, hz, q1⟩ => ⟨I1.kIn, ?_⟩) he hpl
  show wpAny _ _ (call (.ref C) us) _ _ _
  obtain ⟨hp, g, dr, tk, os⟩ := s1
  have hsz : hp.objs.size ≤ hp.objs.size + 1 := Nat.le_succ _
  have hn : H1 (hp.objs.size + 1) = none := I1.hok.fresh hsz
  have hq := q1 (hp.objs.size + 1) hn
  have kk : ∀ b o, hp.get? b = some o → ((hp.push (PySem.W.kdv_tup us)).push (PySem.HandSPX.excO C hp.objs.size)).get? b = some o := fun b o e => Heap.get?_push_of_some _ (Heap.get?_push_of_some _ e)
  have hget : ((hp.push (PySem.W.kdv_tup us)).push (PySem.HandSPX.excO C hp.objs.size)).get? (hp.objs.size + 1) = some (PySem.HandSPX.excO C hp.objs.size) := by heap_get
  have I2 : Inv X pins σ (upd H1 (hp.objs.size + 1) (exo (hp.objs.size + 1) C none)) ⟨(hp.push (PySem.W.kdv_tup us)).push (PySem.HandSPX.excO C hp.objs.size), g, dr, tk, os⟩ :=
    I1.laid (t' := tk) (a := hp.objs.size + 1) (o := exo (hp.objs.size + 1) C none) (h' := (hp.push (PySem.W.kdv_tup us)).push (PySem.HandSPX.excO C hp.objs.size)) kk hsz (exo_ok hget)
  have r2 : Vals (V.ref (hp.objs.size + 1) :: vs) (Value.ref (hp.objs.size + 1) :: us) := .cons rfl r1
  have hl : (Value.ref (hp.objs.size + 1) :: us ++ []).length = ps.length := by
    have e := r2.length
    rw [F1.len _ _ _ _ hq] at e
    rw [List.append_nil]
    exact e.symm
  have hus : us.length ≤ sizeLine := by
    rw [← Paired.length r1, sizeLine_eq]
    omega
  have hbt := hb ⟨(hp.push (PySem.W.kdv_tup us)).push (PySem.HandSPX.excO C hp.objs.size), g, dr, tk, os⟩ (Value.ref (hp.objs.size + 1) :: us) I2.kIn hl
  rw [List.append_nil] at hbt
  refine wpAny_call (PySem.HandSPX.call_own F.base (fun Y => rfl) (I1.kIn _ _ hC) (PySem.W.looks_findIn I1.kIn iC) (fun self => PySem.W.bind_fn I1.kIn self tI) hus
    (codeAny_mono (F1.run _ X.stack _ _ ⟨Value.ref (hp.objs.size + 1) :: us, []⟩ (Value.ref (hp.objs.size + 1) :: us) _ _ (fun _ _ _ => False) (hr.make C us []) (I2.env0.make C us []) hbt r2 hq) fun r s' hq' => ?_))
  cases r with
  | error er => exact hx pins σ _ _ er s' I2 hq'
  | ok fl =>
    cases fl with
    | ret u =>
      obtain ⟨v, H2, os2, bare2, un2, hok2, rv, ev, d, fs, ea, ed, hd1, q2⟩ := hq'
      subst ev
      obtain ⟨h2, g2, d2, t2, os'⟩ := s'
      exact ⟨rv, mk_end (raises_own T.exC T.tyC) I1 hsz kk un2 hok2 os2 bare2 ea ed hd1 q2⟩
    | next => exact False.elim hq'
    | brk => exact False.elim hq'
    | cont => exact False.elim hq'
/-- the end of C(): the exception, that never had a dict, is let go -/
theorem mk_endN {pins : List (Addr × Obj)} {σ : St} {H1 : Hp} {Q : XK} {hp hp2 h2 : Heap} {g1 g2 : Array GenState} {d1 d2 : Drawn} {t1 t2 : Nat} {os1 os2 : OsState} {a C : Addr} (T : Raises X (.ref C)) (I1 : Inv X pins σ H1 ⟨hp, g1, d1, t1, os1⟩)
    (ha : hp.objs.size ≤ a) (k : ∀ b o, hp.get? b = some o → hp2.get? b = some o) (un : Un (frs X.stack) [] (upd H1 a (exo a C none)) (upd H1 a (exo a C none)) hp2 h2) (hok : HOk X.prog X.w (upd H1 a (exo a C none)) h2) (ho : os2 = os1) (hb : AllBare g2)
    (q : Q (.ref C) none H1) : MkP X pins σ Q (.ref a) ⟨h2, g2, d2, t2, os2⟩ := by
  have hn : H1 a = none := I1.hok.fresh ha
  obtain ⟨t0, hoe⟩ := exo_at hok (show upd H1 a (exo a C none) a = some (exo a C none) from upd_same)
  obtain ⟨G, g1', g2'⟩ := restrict h2 fun b => decide (b ≠ a)
  have gk : ∀ b, b ≠ a → G.get? b = h2.get? b := fun b hb => g1' b (decide_eq_true hb)
  have ge : G.get? a = none := g2' a (by simp)
  have nha : ∀ {b : Addr} {o : Obj}, hp.get? b = some o → b ≠ a := fun {b o} z => Nat.ne_of_lt (Nat.lt_of_lt_of_le (Heap.lt_size z) ha)
  have up : ∀ {b : Addr}, b ≠ a → H1 b = none → upd H1 a (exo a C none) b = none := fun {b} hb n => by rw [upd_ne hb]; exact n
  have U : Un (frs X.stack) [] H1 H1 hp G := {
    keep := fun b o z n hf hx => by
      rw [gk b (nha z)]
      exact un.keep b o (k b o z) (up (nha z) n) hf hx
    slot := fun b o z n hf hx => by
      rw [gk b (nha z)]
      exact un.slot b o (k b o z) (up (nha z) n) hf hx
    free := fun b o z n hx => n
    there := fun b o z hx => by
      rw [gk b (nha z)]
      exact un.there b o (k b o z) hx
    tups := fun b xs z => z
    frzs := fun b o v z => z
    tbls := fun b ps z => ⟨#[], by rw [z]; simp⟩ }
  have hok3 : HOk X.prog X.w H1 G := fun b o z => by
    have hba : b ≠ a := ne_of_none z hn
    have z2 : upd H1 a (exo a C none) b = some o := by rw [upd_ne hba]; exact z
    have noa : ∀ {c : Addr} {x : Addr}, upd H1 a (exo a C none) c = some (.own x) → c ≠ a := fun {c x} hc => at_ne (show upd H1 a (exo a C none) a = some (exo a C none) from upd_same) hc exo_own
    exact (hok b o z2).stay (fun c v hc y => by
        have hca : c ≠ a := by
          rcases hc with hc | hc
          · rw [hc]
            exact hba
          · exact noa hc
        rw [gk c hca]
        exact y)
      (fun c hc => by
        have hca := noa hc
        rw [upd_ne hca] at hc
        exact hc)
      (fun c xs hc => by
        have hca : c ≠ a := at_ne (show upd H1 a (exo a C none) a = some (exo a C none) from upd_same) hc exo_tup
        rw [upd_ne hca] at hc
        exact hc)
  have J : Inv X pins σ H1 ⟨G, g2, d2, t2, os2⟩ := I1.call' (ch := []) ho U hok3 hb (fun b z => absurd z (by simp))
  refine ⟨a, _, _, ⟨G, g2, d2, t2, os2⟩, _, .ref C, none, rfl, J, fun b o z => ?_, ge, hoe, ⟨rfl, rfl⟩, rfl, rfl, hn, rfl, hb, T, q⟩
  by_cases hba : b = a
  · have z' : G.get? b = some o := z
    rw [hba, ge] at z'
    cases z'
  · exact (gk b hba).symm.trans z
theorem pmk_nofld {CX : CXT} {x : Str} {C fI : Addr} {k : Nat} {fd : FuncData} {ps : List Str} {sp : Sp} (F : PySem.OEG.Base B newId initId bmB) (T : OxG X.K C newId bmB) (iC : PySem.W.findIn X.K (.ref C) "__init__" = some (some (.ref fI))) (tI : PySem.W.typeIn X.K (.ref fI) = some (.type "function"))
    (F1 : FnOk X.prog X.w X.K X.mg X.base CX k fI fd ps sp) (hr : Room (k + 1) X.A) (hb : Binds X.K fd ps []) (hx : Passes CX X (fun _ _ _ => False)) (hg : Gl X x) (hm : X.mg x = some (.ref C))
    (hdb : (x == ("__debug__" : Str)) = false := by decide) : PMk X (.Call (.Name x p) [] [] pos) (tMkN C sp) := by
  intro pins s σ H1 Q I1 q1
  obtain ⟨nm, q, N, bs, sn, sub, ab, col, dd, k0, k1, k2, k3, k5, hC⟩ := T.cls
  refine wpAny_Call_Name_kw (ld_glob I1 hg hm ?_ hdb)
  refine PySem.W.callWith_K0 I1.kIn T.kC ?_
  show wpAny _ _ (call (.ref C) []) _ _ _
  obtain ⟨hp, g, dr, tk, os⟩ := s
  have hsz : hp.objs.size ≤ hp.objs.size + 1 := Nat.le_succ _
  have hn : H1 (hp.objs.size + 1) = none := I1.hok.fresh hsz
  have hq := q1 (hp.objs.size + 1) hn
  have kk : ∀ b o, hp.get? b = some o → ((hp.push (PySem.W.kdv_tup [])).push (PySem.HandSPX.excO C hp.objs.size)).get? b = some o := fun b o e => Heap.get?_push_of_some _ (Heap.get?_push_of_some _ e)
  have hget : ((hp.push (PySem.W.kdv_tup [])).push (PySem.HandSPX.excO C hp.objs.size)).get? (hp.objs.size + 1) = some (PySem.HandSPX.excO C hp.objs.size) := by heap_get
  have I2 : Inv X pins σ (upd H1 (hp.objs.size + 1) (exo (hp.objs.size + 1) C none)) ⟨(hp.push (PySem.W.kdv_tup [])).push (PySem.HandSPX.excO C hp.objs.size), g, dr, tk, os⟩ :=
    I1.laid (t' := tk) (a := hp.objs.size + 1) (o := exo (hp.objs.size + 1) C none) (h' := (hp.push (PySem.W.kdv_tup [])).push (PySem.HandSPX.excO C hp.objs.size)) kk hsz (exo_ok hget)
  have r2 : Vals [V.ref (hp.objs.size + 1)] [Value.ref (hp.objs.size + 1)] := .cons rfl .nil
  have hl : ([Value.ref (hp.objs.size + 1)] ++ []).length = ps.length := by
    have e := r2.length
    rw [F1.len _ _ _ _ hq] at e
    rw [List.append_nil]
    exact e.symm
  have hbt := hb ⟨(hp.push (PySem.W.kdv_tup [])).push (PySem.HandSPX.excO C hp.objs.size), g, dr, tk, os⟩ [Value.ref (hp.objs.size + 1)] I2.kIn hl
  rw [List.append_nil] at hbt
  refine wpAny_call (PySem.HandSPX.call_own F.base (fun Y => rfl) (I1.kIn _ _ hC) (PySem.W.looks_findIn I1.kIn iC) (fun self => PySem.W.bind_fn I1.kIn self tI) (Nat.zero_le _)
    (codeAny_mono (F1.run _ X.stack _ _ ⟨[Value.ref (hp.objs.size + 1)], []⟩ [Value.ref (hp.objs.size + 1)] _ _ (fun _ _ _ => False) (hr.make C [] []) (I2.env0.make C [] []) hbt r2 hq) fun r s' hq' => ?_))
  cases r with
  | error er => exact hx pins σ _ _ er s' I2 hq'
  | ok fl =>
    cases fl with
    | ret u =>
      obtain ⟨v, H2, os2, bare2, un2, hok2, rv, ev, eH, q2⟩ := hq'
      subst ev
      subst eH
      obtain ⟨h2, g2, d2, t2, os'⟩ := s'
      exact ⟨rv, mk_endN (raises_own T.exC T.tyC) I1 hsz kk un2 hok2 os2 bare2 q2⟩
    | next => exact False.elim hq'
    | brk => exact False.elim hq'
    | cont => exact False.elim hq'
end
end L2
set_option Elab.async false
set_option linter.all false
set_option maxRecDepth 100000
set_option maxHeartbeats 4000000
/-! KLayC: a clause that names many classes and keeps what it caught; isinstance and fields of a caught error that is kept; counting bools; a chain of three comparisons. -/
namespace PySem.W
open PySem PySem.Spec PySem.Calls PyProof.Rows
section
variable {M : Model} {K : Frag} {A : Around} {E : Value → Shared → Prop} {s : Shared}
theorem excLoop1 {f : Value → PUnit → Sem (ForInStep PUnit)} {Q : PUnit → Shared → Prop} : ∀ (cs : List Value), (∀ c ∈ cs, ∀ (R : ForInStep PUnit → Shared → Prop), R (.yield ⟨⟩) s → wpAny M A (f c ⟨⟩) R E s) → Q ⟨⟩ s → wpAny M A (forIn cs (PUnit.unit) f) Q E s
  | [], _, h => by
    rw [List.forIn_nil]
    exact wpAny_pure h
  | c :: cs, hf, h => by
    rw [List.forIn_cons]
    exact wpAny_bind (hf c List.mem_cons_self _ (excLoop1 cs (fun c' hc' => hf c' (List.mem_cons_of_mem _ hc')) h))
theorem excLoop2 {α : Type} {cls : Value} {f : Value → α → Sem (ForInStep α)} {a0 a1 : α} {Q : α → Shared → Prop} : ∀ (cs : List Value) (b : Bool), exmAny K cls cs = some b →
    (∀ c b1, exmOne K cls c = some b1 → ∀ (R : ForInStep α → Shared → Prop), R (if b1 = true then .done a1 else .yield a0) s → wpAny M A (f c a0) R E s) → Q (if b = true then a1 else a0) s → wpAny M A (forIn cs a0 f) Q E s
  | [], b, e, _, h => by
    rw [List.forIn_nil]
    have e' : some false = some b := e
    cases e'
    exact wpAny_pure h
  | c :: cs, b, e, hf, h => by
    rw [List.forIn_cons]
    obtain ⟨b1, d1, x1, y1, z1⟩ := exmAny_cons e
    refine wpAny_bind (hf c b1 x1 _ ?_)
    cases b1 with
    | true =>
      rw [if_pos rfl]
      rw [z1, Bool.true_or, if_pos rfl] at h
      exact wpAny_pure h
    | false =>
      rw [if_neg Bool.false_ne_true]
      rw [z1, Bool.false_or] at h
      exact excLoop2 cs d1 y1 hf h
theorem exmAny_mem {cls : Value} : ∀ {cs : List Value} {b : Bool}, exmAny K cls cs = some b → ∀ c ∈ cs, ∃ b1, exmOne K cls c = some b1
  | [], _, _, c, hc => absurd hc (by simp)
  | c0 :: cs, b, e, c, hc => by
    obtain ⟨b1, d1, x1, y1, z1⟩ := exmAny_cons e
    rcases List.mem_cons.mp hc with q | q
    · subst q; exact ⟨b1, x1⟩
    · exact exmAny_mem y1 c q
/-- a tuple of classes in an except clause, of any length -/
theorem exm_tupN {cs : List Value} {cls : Value} {tp e : Addr} {b : Bool} {h : Heap} (X : K.In h) (LT : Looks M h (typeOf (.ref e)) cls) (hp : h.get? tp = some { cls := .type "tuple", data := .seq cs.toArray }) (hx : exmAny K cls cs = some b) :
    Looks M h (excMatches (.ref e) (.ref tp)) b := by
  intro A Q E s k₀ q
  obtain ⟨hh, g, d, tk, os⟩ := s
  have k : ∀ b o, h.get? b = some o → hh.get? b = some o := k₀
  have LT0 : Looks M h (isInstance (.ref tp) (.type "tuple")) true := ((Looks.ld hp).andThen .now).andThen (Looks.of_pure isSubtype_tuple_tuple)
  have LT := LT.keeps k
  have LT0 := LT0.keeps k
  have hp' := k _ _ hp
  unfold excMatches
  refine wpAny_bind (LT0.at ?_)
  dsimp only
  rw [if_pos rfl]
  first
    | refine wpAny_bind (wpAny_seqItems hp' rfl ?_)
    | refine wpAny_bind (wpAny_bind (wpAny_seqItems hp' rfl (wpAny_pure ?_)))
  dsimp only [Option.getD_some, Option.getD]
  refine wpAny_bind (wpAny_pure ?_)
  refine wpAny_bind (excLoop1 _ (fun c hc R hR => ?_) ?_)
  · have hc' : c ∈ cs := by simpa using hc
    obtain ⟨b1, x1⟩ := exmAny_mem hx c hc'
    have e1 := (exm_cls (M := M) X x1).1.keeps k
    refine wpAny_bind (e1.at ?_)
    simp only [Bool.not_true, Bool.false_eq_true, if_false]
    first | exact wpAny_pure hR | exact hR
  · refine wpAny_bind (LT.at ?_)
    refine wpAny_bind (excLoop2 (K := K) (cls := cls) (a1 := ((some true, ()) : Option Bool × Unit)) _ b (by simpa using hx) (fun c b1 x1 R hR => ?_) ?_)
    · have e1 := (exm_cls (M := M) X x1).2.keeps k
      refine wpAny_bind (e1.at ?_)
      cases b1 with
      | true => simp only [if_true]; first | exact wpAny_pure hR | exact hR
      | false => simp only [Bool.false_eq_true, if_false]; first | exact wpAny_pure hR | exact hR
    · cases b with
      | true => simp only [if_true]; first | exact wpAny_pure q | exact q
      | false => simp only [Bool.false_eq_true, if_false]; first | exact wpAny_pure q | exact q
end
end PySem.W

namespace L2
open PySem PySem.Spec PyProof.Rows
/-- a caught error that a name keeps: its class, its own dict -/
def ExT (a : Addr) (cls : Value) (d : Option Addr) : HO := .ext fun h => ∃ oe vs, h.get? a = some oe ∧ Zc cls d oe ∧ oe.data = .fields vs
theorem exT_ok {P : Program} {w : World} {H : Hp} {h : Heap} {a : Addr} {cls : Value} {d : Option Addr} {oe : Obj} {vs : Array Value} (he : h.get? a = some oe) (hz : Zc cls d oe) (hd : oe.data = .fields vs) : ObjOk P w H h a (ExT a cls d) :=
  ⟨⟨oe, vs, he, hz, hd⟩, ⟨oe, he⟩, fun h1 h2 z k => by
    obtain ⟨o, v, q, r⟩ := z
    exact ⟨o, v, k _ q, r⟩⟩
theorem exT_at {P : Program} {w : World} {H : Hp} {h : Heap} {a : Addr} {cls : Value} {d : Option Addr} (hok : HOk P w H h) (he : H a = some (ExT a cls d)) : ∃ oe vs, h.get? a = some oe ∧ Zc cls d oe ∧ oe.data = .fields vs := by
  have x : ObjOk P w H h a (.ext fun h => ∃ oe vs, h.get? a = some oe ∧ Zc cls d oe ∧ oe.data = .fields vs) := hok a _ he
  exact x.1
section
variable {X : Cx} {pins : List (Addr × Obj)} {σ : St} {H : Hp} {s : Shared}
/-- an untracked object that is pinned and younger than the entry is tracked from now on -/
theorem Inv.trackX {a : Addr} {oe : Obj} {vs : Array Value} {cls : Value} {d : Option Addr} (I : Inv X ((a, oe) :: pins) σ H s) (hz : Zc cls d oe) (hd : oe.data = .fields vs) (n0 : X.s_0.heap.get? a = none) (np : ∀ p ∈ X.pn ++ pins, p.1 ≠ a) : Inv X pins σ (upd H a (ExT a cls d)) s := by
  obtain ⟨ha, na, nL, nF, nd⟩ := I.pin (a, oe) (List.mem_append_right _ List.mem_cons_self)
  have neS : ∀ {b : Addr} {o : Obj}, X.s_0.heap.get? b = some o → b ≠ a := fun {b o} e z => by rw [z, n0] at e; cases e
  have neH : ∀ {b : Addr} {o : HO}, H b = some o → b ≠ a := fun {b o} e => ne_of_none e na
  refine ⟨I.ok, I.os, I.bare, ⟨I.base.keep, I.base.slot, fun b o e n hx => ?_, I.base.there, fun b xs q => ?_, fun b o u q => ?_, fun b ps q => ?_⟩, I.loc, I.cell, ?_, fun x c e => ?_, fun p hp => ?_, fun b o q => ?_, I.len⟩
  · rw [upd_ne (neS e)]; exact I.base.free b o e n hx
  · have z := I.base.tups b xs q
    rw [upd_ne (neH z)]; exact z
  · have z := I.base.frzs b o u q
    rw [upd_ne (neH z)]; exact z
  · obtain ⟨m, z⟩ := I.base.tbls b ps q
    exact ⟨m, by rw [upd_ne (neH z)]; exact z⟩
  · rw [upd_ne (Ne.symm nL)]; exact I.free
  · obtain ⟨v, o, ho, hv⟩ := I.cell x c e
    have hca : c ≠ a := fun z => by
      rw [z] at ho
      have e2 := ho.symm.trans ha
      have e3 : o = oe := Option.some.inj e2
      rw [e3] at hv
      exact nd _ hv
    rw [upd_ne hca]; exact I.freeC x c e
  · have hp' : p ∈ X.pn ++ (a, oe) :: pins := by
      rcases List.mem_append.mp hp with z | z
      · exact List.mem_append_left _ z
      · exact List.mem_append_right _ (List.mem_cons_of_mem _ z)
    obtain ⟨k1, k2, k3, k4, k5⟩ := I.pin p hp'
    exact ⟨k1, by rw [upd_ne (np p hp)]; exact k2, k3, k4, k5⟩
  · by_cases hb : b = a
    · subst hb
      rw [upd_same] at q
      cases q
      exact exT_ok ha hz hd
    · rw [upd_ne hb] at q
      exact (I.hok b o q).stay (fun _ _ _ z => z) (fun c z => by rw [upd_ne (neH z)]; exact z) fun c xs z => by rw [upd_ne (neH z)]; exact z
theorem Inv.unsuiteK {a : Addr} {q : Addr × Obj} {pn' : List (Addr × Obj)} (I : Inv (X.suite a (q :: (X.pn ++ pins))) pn' σ H s) (ok : X.Ok) : Inv X (q :: pins) σ H s :=
  ⟨ok, I.os, I.bare, I.base, I.loc, I.cell, I.free, I.freeC, fun p hp => I.pin p (List.mem_append_left _ (by
    rcases List.mem_append.mp hp with z | z
    · exact List.mem_cons_of_mem _ (List.mem_append_left _ z)
    · rcases List.mem_cons.mp z with z | z
      · subst z; exact List.mem_cons_self
      · exact List.mem_cons_of_mem _ (List.mem_append_right _ z))), I.hok, I.len⟩
end
theorem FlyingZ_keeps {B h h' : Heap} {l : List Env} {e : Addr} {Z : Obj → Prop} (x : HandSPX.FlyingZ B l e Z h) (k : ∀ b o, h.get? b = some o → h'.get? b = some o) : HandSPX.FlyingZ B l e Z h' := by
  obtain ⟨k1, k2, k3, oe, vs, T, oT, ts, he, hz, hd, h1, hn, hne, hT, hdT, h3⟩ := x
  exact ⟨fun b o z => k _ _ (k1 b o z), k2, k3.of_keeps fun b o hb _ => ⟨o, k _ _ hb, rfl⟩, oe, vs, T, oT, ts, k _ _ he, hz, hd, h1, hn, hne, k _ _ hT, hdT, h3⟩
/-- the names of classes in a clause's tuple -/
inductive NmAll (X : Cx) : List Expr → List Value → Prop
  | nil : NmAll X [] []
  | cons {x : Str} {c : Value} {np : Pos} {es : List Expr} {cs : List Value} (h : Names X x c) (hs : starEach (.Name x np :: es) X.env = (false, eval (.Name x np) X.env) :: starEach es X.env) (r : NmAll X es cs) : NmAll X (.Name x np :: es) (c :: cs)
theorem NmAll.run {X : Cx} {es : List Expr} {cs : List Value} (h : NmAll X es cs) {a : Addr} {pn : List (Addr × Obj)} {σ : St} {H : Hp} {s : Shared} (I : Inv (X.suite a pn) [] σ H s) {E : Value → Shared → Prop} (pos : Pos) : ∀ {Q : List Value → Shared → Prop}, Q cs s →
    wpAny (model X.prog X.w) (X.A.mark (some (.ref a))) (spliced (backTo pos (starEach es X.env))) Q E s := by
  induction h with
  | nil => intro Q q; exact Calls.spliced_nil q
  | @cons x c np es cs h hs r ih =>
    intro Q q
    rw [hs]
    show wpAny _ _ (spliced ((false, eval (.Name x np) X.env) :: backTo pos (starEach es X.env))) _ _ s
    refine Calls.spliced_cons ?_
    obtain ⟨hg, hdbg, hm | ⟨hm, hv, hnn⟩⟩ := h
    · exact ld_glob (X := X.suite a pn) I hg hm (ih q) hdbg
    · exact ld_blt (X := X.suite a pn) I hg hm hv (ih q) hnn hdbg

/-- what the clause «except (C1, C2, ..) as n: y = n» wishes of an exception of the body: it is one of these; behind it y holds it, n is gone -/
def wCat (K : PySem.W.Frag) (cs : List Value) (i j : Nat) (D : Ends) : WX := fun cls d σ H =>
  PySem.W.exmAny K cls cs = some true ∧ ∀ a, H a = none → D.nx ((σ.set j (some (.ref a))).set i none) (upd H a (ExT a cls d))
theorem ps_try_cat {X : Cx} {n y : Str} {cs : List Value} {es : List Expr} {i j kk : Nat} {body : List Stmt} {tpos pos pos' p1 p2 p3 : Pos} {tb : WX → TS} (hs : X.stack = X.env :: X.outer) (hf : X.env.frame = some X.env.locals) (hex : X.ex = []) (hN : X.N.Nodup)
    (hi : X.N[i]? = some n) (hln : X.env.kindOf n = some .local) (hj : X.N[j]? = some y) (hlj : X.env.kindOf y = some .local) (hij : i ≠ j) (hc : NmAll X es cs) (hcz : cs.length ≤ 1000)
    (hb : ∀ (W : WX) (pn : List (Addr × Obj)) (xe : Value → Shared → Prop), Takes (X.tr pn xe) W → PassesOwn (model X.prog X.w) X.A X.env xe → PSs (X.tr pn xe) body (tb W))
    (hsw : swapsWith (.Name n p2) (some (.Name y p1)) p3.line X.env = pure false := by rfl) (hdn : (n == ("__debug__" : Str)) = false := by decide) (hcd : (n == ("__classdict__" : Str)) = false := by decide) :
    PS X (.Try body [.ExceptHandler (some (.Tuple es kk tpos)) (some n) [.Assign [.Name y p1] (.Name n p2) p3] pos'] [] [] pos) (fun D σ H => tb (wCat X.K cs i j D) D σ H) := by
  refine ⟨fun pins s σ H D I h => ?_⟩
  have ok := I.ok
  have hfr : X.A.frames = some (X.env :: X.outer) := by rw [ok.frames, hs]
  have hloc : Loc X.env.scope n := .inl hln
  refine wpAny_Try_except ?_
  refine wpAny_mono ((hb (wCat X.K cs i j D) (X.pn ++ pins) (fun e s₁ => wpAny (model X.prog X.w) X.A (noteFrame e X.env) (fun _ s₂ => wpAny (model X.prog X.w) X.A (setFlight e none) (fun _ s₃ =>
    wpAny (model X.prog X.w) X.A (handleBy e X.env [.ExceptHandler (some (.Tuple es kk tpos)) (some n) [.Assign [.Name y p1] (.Name n p2) p3] pos']) (SP X pins D) X.xe s₃) X.xe s₂) X.xe s₁) (fun u s' xx => ?_) PassesOwn.looking).run [] s σ H D (I.toTry _) h) (fun f s1 hsp => ?_) (fun e s1 he => he)
  · -- the catch
    obtain ⟨a, B, sI, pins', σ', H', cls, d, rfl, J', nb, up, sky, na, os, ag, hany, hyes⟩ := xx
    have J : Inv X pins σ' H' sI := J'.ofTry ok
    have sky' : Sky B (X.env :: X.outer) a (Zc cls d) X.env.locals s'.heap := by rw [← hs]; exact sky
    show wpAny (model X.prog X.w) X.A (noteFrame (.ref a) X.env) _ _ _
    refine Sky.land Zc.steady hfr hf sky' fun h3 fl3 up3 => ?_
    have J3 : Inv X pins σ' H' { s' with heap := h3 } := J.landed nb fl3.1 (up.trans up3) os ag
    obtain ⟨oe3, vs3, he3, hz3, hd3⟩ := fl3.there
    have notFr : ∀ {h : Heap} {o : Obj} {vs : Array Value}, h.FunFrames B (X.env :: X.outer) → h.get? a = some o → o.data = .fields vs → a ∉ frs (X.env :: X.outer) := fun {h o vs} ff e dd hm => by
      obtain ⟨_, o', e', hnf⟩ := ff.mem hm
      rw [e] at e'; cases e'
      exact hnf _ dd
    have nfr := notFr fl3.2.2.1 he3 hd3
    have nL : a ≠ X.env.locals := fun z => nfr (List.mem_filterMap.mpr ⟨X.env, List.mem_cons_self, by rw [hf, z]⟩)
    have nF : a ∉ X.fs := fun hm => by
      obtain ⟨e, he, q⟩ := List.mem_filterMap.mp hm
      exact nfr (List.mem_filterMap.mpr ⟨e, List.mem_cons_of_mem _ he, q⟩)
    have nstk : a ∉ frs X.stack := by rw [hs]; exact nfr
    have nB : B.get? a = none := fl3.2.1
    -- the exception is younger than the entry, and is no pinned object
    have n0 : X.s_0.heap.get? a = none := by
      cases q : X.s_0.heap.get? a with
      | none => rfl
      | some o =>
        obtain ⟨o', e'⟩ := J.base.there a o q (by rw [hex]; simp)
        rw [nb a o' e' nstk] at nB
        cases nB
    have np : ∀ p ∈ X.pn ++ pins, p.1 ≠ a := fun p hp z => by
      obtain ⟨e, _⟩ := J.pin p hp
      rw [z] at e
      rw [nb a _ e nstk] at nB
      cases nB
    have S3 := J3.suite he3 hd3 na nL nF
    refine wpAny_handleBy_cons (codeAny_handlers_test ?_) (by intro q; cases q)
    refine wpAny_Tuple_spliced (hc.run S3 tpos ⟨by rw [sizeLine_eq]; omega, ?_⟩)
    have kp : ∀ b o, h3.get? b = some o → (h3.push { cls := .type "tuple", data := .seq cs.toArray }).get? b = some o := fun b o e => Heap.get?_push_of_some _ e
    have fl3' := FlyingZ_keeps fl3 kp
    have J3' : Inv X pins σ' H' { s' with heap := h3.push { cls := .type "tuple", data := .seq cs.toArray } } := J3.kept (h' := h3.push { cls := .type "tuple", data := .seq cs.toArray }) (t' := s'.toks) kp
    have LT : PySem.W.Looks (model X.prog X.w) (h3.push { cls := .type "tuple", data := .seq cs.toArray }) (typeOf (.ref a)) cls := fun A Q E s k q => wpAny_typeOf_ref (k _ _ (kp _ _ he3)) (by rw [hz3.1]; exact q)
    have LM := PySem.W.exm_tupN (M := model X.prog X.w) (J3'.kIn) LT (Heap.get?_push_size h3 rfl) hany
    refine LM.here ?_
    refine codeAny_handlers_suite_as ?_
    refine HandSPX.lands_againZ fl3' fun h4 fl4 up4 => ?_
    have upk : h3.UpToSlots (h3.push { cls := .type "tuple", data := .seq cs.toArray }) := fun b o e _ => ⟨o.slots, kp b o e⟩
    have J4 : Inv X pins σ' H' { s' with heap := h4 } := J.landed nb fl4.1 (((up.trans up3).trans upk).trans up4) os ag
    obtain ⟨oe4, vs4, he4, hz4, hd4⟩ := fl4.there
    have S4 := J4.suite he4 hd4 na nL nF
    refine store_ok (X := X.suite a ((a, oe4) :: (X.pn ++ pins))) (v := .ref a) S4 hN hi hloc rfl (fun s5 S5 => ?_) (.inr hln)
    have suite : PSs (X.suite a ((a, oe4) :: (X.pn ++ pins))) [.Assign [.Name y p1] (.Name n p2) p3] (tAsg (tVar i) (gName j)) := pss_one (ps_set (X := X.suite a ((a, oe4) :: (X.pn ++ pins))) hN hj (.inl hlj) (pe_var (X := X.suite a ((a, oe4) :: (X.pn ++ pins))) hi (.inl hln) hdn hcd) hsw (.inr hlj))
    have hiσ : i < σ'.length := by rw [J.len]; exact (List.getElem?_eq_some_iff.mp hi).1
    refine wpAny_mono (suite.run [] s5 _ H' { nx := fun σ6 H6 => σ6 = (σ'.set i (some (.ref a))).set j (some (.ref a)) ∧ H6 = H', rt := fun _ _ => False } S5 ⟨.ref a, List.getElem?_set_self hiσ, rfl, rfl⟩) (fun f s6 hsp => ?_) (fun _ _ z => False.elim z)
    cases f with
    | next =>
      obtain ⟨σ6, H6, S6, e6, eH6⟩ := hsp
      subst e6
      subst eH6
      refine gone_ok (S6.unsuiteK ok) hN hi hln fun s7 J7 => ?_
      have e7 : (((σ'.set i (some (.ref a))).set j (some (.ref a))).set i none) = (σ'.set j (some (.ref a))).set i none := by
        rw [List.set_comm _ _ hij, List.set_set]
      rw [e7] at J7
      exact ⟨_, _, J7.trackX hz4 hd4 n0 np, hyes a na⟩
    | brk => obtain ⟨σ6, H6, S6, q6⟩ := hsp; exact q6.elim
    | cont => obtain ⟨σ6, H6, S6, q6⟩ := hsp; exact q6.elim
    | ret u => obtain ⟨v6, σ6, H6, S6, r6, q6⟩ := hsp; exact q6.elim
  · cases f with
    | next =>
      obtain ⟨σ', H', J', q⟩ := hsp
      exact wpAny_execs_nil ⟨σ', H', J'.ofTry ok, q⟩
    | brk =>
      obtain ⟨σ', H', J', q⟩ := hsp
      exact ⟨σ', H', J'.ofTry ok, q⟩
    | cont =>
      obtain ⟨σ', H', J', q⟩ := hsp
      exact ⟨σ', H', J'.ofTry ok, q⟩
    | ret u =>
      obtain ⟨v, σ', H', J', r, q⟩ := hsp
      exact ⟨v, σ', H', J'.ofTry ok, r, q⟩
end L2

namespace PySem.W
open PySem PySem.Spec PySem.Calls PyProof.Rows
section
variable {prog : Program} {w : World} {A : Around} {E : Value → Shared → Prop} {s : Shared} {K : Frag} {x D : Addr} {ox : Obj} {od : Option Obj}
theorem findObj_dataA {C : Addr} {name : Str} {a g : Value} (hc : (clsIn K C).isSome = true) (ha : findIn K (.ref C) name = some (some a)) (hg : specialIn K a "__get__" = some (some g)) (ht : takesIn K a = some true) : findObj K C od name = some (.bind g a) := by
  obtain ⟨cd, hc⟩ := Option.isSome_iff_exists.mp hc
  unfold findObj
  rw [hc, Option.bind_some, ha, Option.bind_some]
  simp [hg, ht]
theorem kin_classA {Q : Option Value → Shared → Prop} (hga : findIn K (.ref D) "__getattribute__" = some (some (.builtin "BaseException.__getattribute__"))) (hgt : findIn K (.ref D) "__getattr__" = some none) (hsub : subIn K (.ref D) (.type "BaseException") = some true)
    (hdct : hasDictIn K D = true) (ha : findIn K (.ref D) "__class__" = some (some (.builtin "object.__class__")))
    (hn : specialIn K (.builtin "object.__class__") "__get__" = some (some (.builtin "getset_descriptor.__get__"))) (htk : takesIn K (.builtin "object.__class__") = some true) (hm : mroIn K D (.type "object") = some true)
    (X : K.In s.heap) (I : InstAt s.heap x ox D od) (h : Q (some (.ref D)) { s with toks := s.toks + 1 }) : wpAny (model prog w) A (getAttr? (.ref x) "__class__") Q E s := by
  have hf : findObj K D od "__class__" = some (.bind (.builtin "getset_descriptor.__get__") (.builtin "object.__class__")) := findObj_dataA (by obtain ⟨cd, hc, _⟩ := any_some hdct; rw [hc]; rfl) ha hn htk
  obtain ⟨hp, g, d, t, os⟩ := s
  have L0 := I.type (M := model prog w)
  have L1 := looks_findIn (M := model prog w) X hga
  have L2 := looks_findIn (M := model prog w) X hgt
  have L3 := looks_find (M := model prog w) X I hf
  have sub : Looks (model prog w) hp (isInstance (.ref x) (.type "BaseException")) true := L0.andThen (looks_subIn X hsub)
  have hx0 : (false && onTheHeap (Value.builtin "BaseException.__getattribute__")) = false := rfl
  have hx2 : (Value.builtin "BaseException.__getattribute__" == Value.builtin "object.__getattribute__") = false := by decide +kernel
  have hx1 : (onTheHeap (Value.ref D) && Value.builtin "BaseException.__getattribute__" == Value.builtin "object.__getattribute__") = false := by rw [hx2]; rfl
  unfold getAttr? getAttrBy? getAttrBy
  refine wpAny_bind (wpAny_mkText (wpAny_bind (wpAny_attempt (wpAny_holding (wpAny_bind (L0.at (wpAny_bind (L1.at ?_))))))))
  show wpAny _ _ (if (onTheHeap (Value.ref D) && Value.builtin "BaseException.__getattribute__" == Value.builtin "object.__getattribute__") = true then _ else _) _ _ _
  rw [hx1, if_neg Bool.false_ne_true]
  unfold getAttrByItsOwn hookBefore
  refine wpAny_bind ?_
  rw [if_pos (show onTheHeap (Value.ref D) = true from rfl)]
  refine L2.at ?_
  refine wpAny_bind (wpAny_attempt (wpAny_holding ?_))
  unfold callGetattribute
  rw [hx0, if_neg Bool.false_ne_true]
  unfold boundAndCalled
  rw [PySem.F.excAttr_ValueError.ga.bind (.ref x)]
  refine wpAny_bind (wpAny_pure ?_)
  show wpAny _ _ (call (.builtin "BaseException.__getattribute__") [.ref x, .str "__class__" t]) _ _ _
  refine wpAny_call (codeAny_call_builtin PySem.F.excAttr_ValueError.ga.plain PySem.F.entry_bexc_ga ?_)
  refine @check_slot (model prog w) _ _ ⟨hp, g, d, t + 1, os⟩ "BaseException.__getattribute__" "BaseException" "__getattribute__" (.ref x) [.str "__class__" t] [] _ (by decide +kernel) (by decide +kernel) sub (PySem.F.args_bexc_ga (.ref x) (.str "__class__" t)) ?_
  unfold Builtin.«object.__getattribute__»
  refine wpAny_bind (wpAny_of_eq (a := ((Value.ref x : Value), [Value.str "__class__" t])) (by first | rfl | (simp only [slotArgs]; rfl)) ?_)
  refine wpAny_bind (wpAny_pure (wpAny_bind (L0.at (wpAny_bind (L3.at ?_)))))
  show wpAny _ _ (holding [Value.builtin "object.__class__"] (call (.builtin "getset_descriptor.__get__") [.builtin "object.__class__", .ref x, .ref D]) >>= ret) _ _ _
  refine wpAny_bind (wpAny_holding (wpAny_call (class_get (s := ⟨hp, g, d, t + 1, os⟩) (ox := ox) (od := od) X I hm ?_)))
  refine wpAny_pure ?_
  show wpAny _ _ (handedOut (.ref D)) _ _ _
  rw [handedOut_of (v := .ref D) rfl]
  first
    | exact wpAny_pure (wpAny_pure h)
    | exact wpAny_pure h
    | exact wpAny_pure (wpAny_bind (wpAny_pure (wpAny_pure h)))
theorem kitx_excA (hga : findIn K (.ref D) "__getattribute__" = some (some (.builtin "BaseException.__getattribute__"))) (hgt : findIn K (.ref D) "__getattr__" = some none) (hsub : subIn K (.ref D) (.type "BaseException") = some true) (hdct : hasDictIn K D = true) (ha : findIn K (.ref D) "__class__" = some (some (.builtin "object.__class__")))
    (hn : specialIn K (.builtin "object.__class__") "__get__" = some (some (.builtin "getset_descriptor.__get__"))) (htk : takesIn K (.builtin "object.__class__") = some true) (hm : mroIn K D (.type "object") = some true) :
    KitX K (.ref x) (.ref D) (fun h => ∃ ox od, InstAt h x ox D od) where
  ty := fun _ _ _ ⟨_, _, I⟩ => I.type
  it := fun _ _ X _ => by
    obtain ⟨cdD, hcD, _⟩ := any_some hdct
    unfold clsIn at hcD
    split at hcD
    · rename_i c' d' cd' sl' ho
      intro A' Q' E' s' k q
      unfold isType loadHead
      exact wpAny_bind (wpAny_loadPart (k _ _ (X _ _ ho)) (wpAny_pure q))
    · cases hcD
  ne := fun h tp dd its n sl X htp => by
    obtain ⟨cdD, hcD, _⟩ := any_some hdct
    refine Bool.eq_false_iff.mpr fun q => ?_
    have e : D = tp := Value.ref.inj (beq_iff_eq.mp q)
    subst e
    unfold clsIn at hcD
    split at hcD
    · rename_i c' d' cd' sl' ho
      have z := (X _ _ ho).symm.trans htp
      cases z
    · cases hcD
  ca := fun X I k => by
    obtain ⟨ox, od, I⟩ := I
    exact kin_classA hga hgt hsub hdct ha hn htk hm X I k
end
end PySem.W

namespace L2
open PySem PySem.Spec PyProof.Rows
section
variable {X : Cx} {pins : List (Addr × Obj)} {σ : St} {H : Hp} {s : Shared}
/-- what is known of a kept error: its class, its dict -/
def KeptX (H : Hp) (a C : Addr) (d : Option Addr) : Prop := H a = some (ExT a (.ref C) d) ∧ ∀ dd, d = some dd → ∃ fs, H dd = some (.xd fs)
theorem keptX_inst {a C : Addr} {d : Option Addr} (I : Inv X pins σ H s) (k : KeptX H a C d) : ∃ ox od, PySem.W.InstAt s.heap a ox C od ∧ (d = none → od = none) ∧ ∀ dd, d = some dd → ∃ o, od = some o ∧ s.heap.get? dd = some o := by
  obtain ⟨k1, k2⟩ := k
  obtain ⟨oe, vs, he, hz, hd⟩ := exT_at I.hok k1
  have nc : PySem.W.notCls oe = true := by unfold PySem.W.notCls; rw [hd] <;> rfl
  cases d with
  | none => exact ⟨oe, none, ⟨he, hz.1, nc, by rw [hz.2] <;> trivial⟩, fun _ => rfl, fun dd z => nomatch z⟩
  | some dd =>
    obtain ⟨fs, hfs⟩ := k2 dd rfl
    have hx : ObjOk X.prog X.w H s.heap dd (.xd fs) := I.hok dd _ hfs
    obtain ⟨mA, hns, hr⟩ := hx
    obtain ⟨od, ho, hl⟩ := lookIn_ns hns
    refine ⟨oe, some od, ⟨he, hz.1, nc, by rw [hz.2]; exact ho⟩, fun z => (nomatch z), fun d2 z => ?_⟩
    cases z
    exact ⟨od, rfl, ho⟩
def rIsX (K : PySem.W.Frag) : List V → Hp → VK → Prop := fun xs H Q => ∃ (a C : Addr) (d : Option Addr) (c : V) (cv : Value) (b : Bool), xs = [.ref a, c] ∧ KeptX H a C d ∧ ExcC K C ∧ ClsV c cv ∧ PySem.W.kitOne K (.ref C) cv = some b ∧ Q (.bl b) H
def rIsXT (K : PySem.W.Frag) : List V → Hp → VK → Prop := fun xs H Q => ∃ (a C : Addr) (d : Option Addr) (tp : Addr) (cs : List V) (us : List Value) (b : Bool), xs = [.ref a, .ref tp] ∧ H tp = some (.tup cs) ∧ Paired ClsV cs us ∧ KeptX H a C d ∧ ExcC K C ∧ PySem.W.kitAny K (.ref C) us = some b ∧ Q (.bl b) H
theorem call_isX : CallR X (.builtin "isinstance") (rIsX X.K) := by
  intro pins s σ H xs us Q I r h
  obtain ⟨a, C, d, c, cv, b, rfl, kx, hC, hcv, e, q⟩ := h
  obtain ⟨u1, u2, rfl, r1, r2⟩ := vals2 r
  cases r1
  have e2 := hcv.eq r2
  subst e2
  obtain ⟨ox, od, J, _⟩ := keptX_inst I kx
  exact PySem.W.kia_one (PySem.W.kitx_excA hC.hg hC.hk hC.hs hC.hd hC.ha hC.hn hC.ht hC.hm) I.kIn ⟨ox, od, J⟩ e (fun z => nomatch z) fun tk => ⟨.bl b, H, I.tok tk, rfl, q⟩
theorem call_isXT : CallR X (.builtin "isinstance") (rIsXT X.K) := by
  intro pins s σ H xs us Q I r h
  obtain ⟨a, C, d, tp, cs, ws, b, rfl, hT, k, kx, hC, e, q⟩ := h
  obtain ⟨u1, u2, rfl, r1, r2⟩ := vals2 r
  cases r1
  cases (show u2 = Value.ref tp from r2)
  obtain ⟨ox, od, J, _⟩ := keptX_inst I kx
  obtain ⟨_, its, rv, o, h1, h2, n, h3⟩ := (show ObjOk X.prog X.w H s.heap tp (.tup cs) from I.hok tp _ hT)
  have e3 := ClsV.all k rv
  subst e3
  obtain ⟨oc, od', dt, sl⟩ := o
  simp only at h2 h3
  subst h2 h3
  exact PySem.W.kia_tup (PySem.W.kitx_excA hC.hg hC.hk hC.hs hC.hd hC.ha hC.hn hC.ht hC.hm) I.kIn ⟨ox, od, J⟩ h1 e (fun z => nomatch z) fun tk => ⟨.bl b, H, I.tok tk, rfl, q⟩
/-- e.f of a kept error -/
def tXfT (K : PySem.W.Frag) (f : Str) (te : TE) : TE := fun σ H Q => te σ H fun x H1 => ∃ (a C dd : Addr) (fs : List (Str × V)) (v : V), x = .ref a ∧ KeptX H1 a C (some dd) ∧ XfC K C ∧ PySem.W.findIn K (.ref C) f = some none ∧ H1 dd = some (.xd fs) ∧ fs.lookup f = some v ∧ Q v H1
theorem pe_xfT {e : Expr} {te : TE} {pos : Pos} {n : Str} (he : PE X e te) (hb : attributeBase e n X.env (eval e X.env) = eval e X.env := by rfl) : PE X (.Attribute e n pos) (tXfT X.K n te) := by
  refine ⟨fun pins s σ H Q I h => ?_⟩
  refine attr_of hb (thn (he.run pins s σ H _ I h) fun u s1 hh => ?_)
  obtain ⟨x, H1, I1, rx, a, C, dd, fs, v, ex, kx, T, hno, ed, l, q⟩ := hh
  subst ex
  obtain rfl : u = Value.ref a := rx
  obtain ⟨ox, od, J, _, hod⟩ := keptX_inst I1 kx
  obtain ⟨o, eo, ho⟩ := hod dd rfl
  subst eo
  have hx : ObjOk X.prog X.w H1 s1.heap dd (.xd fs) := I1.hok dd _ ed
  obtain ⟨mA, hns, hr⟩ := hx
  obtain ⟨od2, ho2, hl⟩ := lookIn_ns hns
  rw [ho] at ho2
  cases ho2
  obtain ⟨u, hu, ru⟩ := RelO.some_of (v := v) (o := mA n) (by rw [← l]; exact hr n)
  exact HandSPX.exc_get I1.kIn J T.ga T.gg T.exC (PySem.W.findObj_own T.hdC hno rfl (by rw [hl, hu])) (handed_of ru) ⟨v, H1, I1.tok _, ru, q⟩

/-! ### bools counted -/
def eqB (k : Bool) (v : Value) : Bool := match v with
  | .bool n => n == k
  | _ => false
def rCntB (K : PySem.W.Frag) : V → List V → Hp → VK → Prop := fun x xs H Q => ∃ (p : Addr) (bs : List Bool) (k : Bool), x = .ref p ∧ xs = [.bl k] ∧ SqL K H p (bs.map V.bl) ∧ Q (.int (bs.count k : Nat)) H
theorem vals_bools : ∀ {bs : List Bool} {us : List Value}, Vals (bs.map V.bl) us → us = bs.map Value.bool
  | [], _, .nil => rfl
  | b :: bs, _, .cons r t => by
    have e1 : _ = Value.bool b := r
    rw [e1, vals_bools t]
    rfl
theorem mt_countB : MtR X "list.count" (rCntB X.K) := by
  intro pins s σ H x xs v us Q I rx rxs h
  obtain ⟨p, ns, k, rfl, rfl, hs, q⟩ := h
  cases rx
  obtain ⟨u, rfl, ru⟩ := rxs.one
  cases (show u = Value.bool k from ru)
  obtain ⟨its, rv, ⟨⟨cls, dd, data, sl⟩, n, ho, hc, hdn, hd⟩, hlen⟩ := I.list hs
  simp only at hc hd
  subst hc hd
  have hi := vals_bools rv
  subst hi
  refine call_meets PySem.F.slot_list_count ⟨_, ho, rfl⟩ PySem.F.entry_list_count (PySem.F.args_list_count_2 _ _)
    (SeqAt.list_countAt p (ns.map Value.bool).toArray n dd sl (.bool k) (eqB k)) ⟨ho, fun y hy => ?_, ?_⟩
  · have hy' : y ∈ ns.map Value.bool := by simpa using hy
    obtain ⟨b, _, rfl⟩ := List.mem_map.mp hy'
    exact SeqAt.EqAt.bool_bool b k
  · have ec : ((ns.map Value.bool).toArray.toList.countP (eqB k) : Nat) = ns.count k := by
      show (ns.map Value.bool).countP (eqB k) = ns.count k
      rw [List.countP_map]
      rfl
    refine ⟨.int (ns.count k : Nat), H, I.tok _, ⟨s.toks, ?_⟩, q⟩
    show Value.int (((ns.map Value.bool).toArray.toList.countP (eqB k) : Nat) : Int) s.toks = Value.int ((ns.count k : Nat) : Int) s.toks
    rw [ec]

/-! ### a op b op' c op'' d -/
def tChain3 (r r' r'' : R2) (ta tb tc td : TE) : TE := fun σ H Q => ta σ H fun x H1 => tb σ H1 fun y H2 => r x y H2 fun z H3 => ∃ k, z = .bl k ∧
  (if k = true then tc σ H3 fun w' H4 => r' y w' H4 fun z2 H5 => ∃ k2, z2 = .bl k2 ∧ (if k2 = true then td σ H5 fun w2 H6 => r'' w' w2 H6 Q else Q (.bl false) H5) else Q (.bl false) H3)
theorem pe_chain3 {op op' op'' : CmpOp} {r r' r'' : R2} {a b c d : Expr} {ta tb tc td : TE} {pos : Pos} (ho : OpR X (compareOp op) r) (ho' : OpR X (compareOp op') r') (ho'' : OpR X (compareOp op'') r'') (ha : PE X a ta) (hb : PE X b tb) (hc : PE X c tc) (hd : PE X d td)
    (hm : lastMarks [op, op', op''] [b, c, d] = false := by with_unfolding_all rfl) : PE X (.Compare a [op, op', op''] [b, c, d] pos) (tChain3 r r' r'' ta tb tc td) := by
  refine ⟨fun pins s σ H Q I h => ?_⟩
  refine Compare_chain (thn (ha.run pins s σ H _ I h) fun v s1 ⟨x, H1, I1, r1, q1⟩ => chain_link (thn (hb.run pins s1 σ H1 _ I1 q1) fun u s2 ⟨y, H2, I2, r2, q2⟩ =>
    thn (ho pins s2 σ H2 x y v u _ I2 r1 r2 q2) fun d s3 ⟨z, H3, I3, r3, k, e, q3⟩ => ?_)) hm
  subst e
  cases r3
  refine wpAny_truthy_bool ?_
  cases k with
  | false => exact ite_ff ⟨.bl false, H3, I3, rfl, q3⟩
  | true =>
    refine ite_tt (chain_link (thn (hc.run pins s3 σ H3 _ I3 q3) fun w' s4 ⟨z', H4, I4, r4, q4⟩ => thn (ho' pins s4 σ H4 y z' u w' _ I4 r2 r4 q4) fun d' s5 ⟨z2, H5, I5, r5, k2, e2, q5⟩ => ?_))
    subst e2
    cases r5
    refine wpAny_truthy_bool ?_
    cases k2 with
    | false => exact ite_ff ⟨.bl false, H5, I5, rfl, q5⟩
    | true => exact ite_tt (chain_last (thn (hd.run pins s5 σ H5 _ I5 q5) fun w2 s6 ⟨z3, H6, I6, r6, q6⟩ => ho'' pins s6 σ H6 z' z3 w' w2 Q I6 r4 r6 q6))
end
end L2
set_option Elab.async false
set_option linter.all false
set_option maxRecDepth 100000
set_option maxHeartbeats 4000000
/-! KText: the text by places, what the top has written, what stands in memory. -/
namespace L2
open PySem PySem.Spec PyProof.Rows
namespace K51
def topS (i : Nat) : Stmt := PySem.Challenge.pw_lastingrun_k51_whole_rings_that_are_cut.main.body.getD i (.Pass ⟨0, 0, 0, 0⟩)
def logS (j : Nat) : Stmt := inClass (topS 18) j
def dskS (j : Nat) : Stmt := inClass (topS 20) j
abbrev FnP (K : PySem.W.Frag) (x q : Str) (st : Stmt) (f : Addr) (fd : FuncData) : Prop := FunD K x q (defArgs st) (defBody st) (defScope st) [] [] f fd
/-- a def that keeps its promise, as its callers ask -/
def Kn (P : Program) (w : World) (K : PySem.W.Frag) (mg : Str → Option Value) (base : Heap) (CX : CXT) (k : Nat) (f : Addr) (ps : List Str) (sp : Sp) : Prop := ∃ fd, FnOk P w K mg base CX k f fd ps sp ∧ Binds K fd ps [] ∧ PySem.W.keepIn K (.ref f) = true
def KnG (P : Program) (w : World) (K : PySem.W.Frag) (mg : Str → Option Value) (base : Heap) (CX : CXT) (k : Nat) (f : Addr) (ps : List Str) (sp : Sp) : Prop := ∃ fd, FnG P w K mg base CX k f fd ps sp ∧ Binds K fd ps [] ∧ PySem.W.keepIn K (.ref f) = true
abbrev CL (K : PySem.W.Frag) : Addr := He.ga K "Log"
abbrev CD (K : PySem.W.Frag) : Addr := He.ga K "Disk"
def gN : List Str := ["is_count", "records_in", "part_of", "packed", "Log", "Disk", "Full", "Gone", "NoCut", "Stopped", "NoBlock", "NoLoose", "NoPlace"]
def gL : List Str := ["_law_cells", "_law_box", "_law_take", "_law_of", "_law_same", "_law_atom", "_law_some", "_law_record", "_law_packed", "_law_told", "_law_wrong_right", "_law_flushed", "_law_cut", "_law_crashed", "_law_step", "_law_right"]
def fN : List Str := ["len", "isinstance", "tuple", "list", "range", "all", "max", "sum", "repr", "abs", "int", "bool", "enumerate", "ValueError", "LookupError", "OverflowError", "RuntimeError", "KeyError", "IndexError"]
def lM : List Str := ["parts", "read_on", "place_of", "part_at", "append", "waiting", "fits", "flush", "write", "records", "many", "safe", "epoch", "next_block", "cut"]
def dM : List Str := ["look", "use", "read", "write", "barrier", "loose", "fail_after", "crash"]
def lF : List Str := ["own_disk", "own_first", "own_count", "own_needed", "own_begin", "own_next", "own_records", "own_epoch", "own_safe"]
def dF : List Str := ["own_kept", "own_shown", "own_loose", "own_writes", "own_left"]
/-- what the written part says of an error's class -/
structure ErC (K : PySem.W.Frag) (C : Addr) (newId : String) (bmB : List Value) : Prop where
  ox : OxG K C newId bmB
  ec : ExcC K C
  xf : XfC K C
  iC : PySem.W.findIn K (.ref C) "__init__" = some (some (.ref (He.ma K C "__init__")))
  tI : PySem.W.typeIn K (.ref (He.ma K C "__init__")) = some (.type "function")
def catN : List Str := ["Full", "Gone", "NoBlock", "NoCut", "NoLoose", "NoPlace", "Stopped"]
structure Tx (K : PySem.W.Frag) (mg : Str → Option Value) : Prop where
  gl : ∀ x ∈ gN, mg x = some (.ref (He.ga K x))
  gw : ∀ x ∈ gL, mg x = some (.ref (He.ga K x))
  fr : ∀ x ∈ fN, mg x = none
  cW : ∃ t, mg "WIDTH" = some (.int 24 t)
  cM : ∃ t, mg "MARK" = some (.str "log" t)
  cH : ∃ t, mg "HEAD" = some (.int 5 t)
  cA : ∃ t, mg "MOST_ATOMS" = some (.int 8 t)
  clL : Cls K (CL K)
  clD : Cls K (CD K)
  meL : ∀ m ∈ lM, Meth K (CL K) m (He.ma K (CL K) m)
  meD : ∀ m ∈ dM, Meth K (CD K) m (He.ma K (CD K) m)
  naL : ∀ f ∈ lF, NoAttr K (CL K) f
  naD : ∀ f ∈ dF, NoAttr K (CD K) f
  mkL : Mk K (CL K) (He.ma K (CL K) "__init__")
  mkD : Mk K (CD K) (He.ma K (CD K) "__init__")
  eF : ErC K (He.ga K "Full") "OverflowError.__new__" PySem.OEG.bmO
  eG : ErC K (He.ga K "Gone") "LookupError.__new__" PySem.OEG.bmL
  eN : ErC K (He.ga K "NoCut") "ValueError.__new__" PySem.OEG.bmV
  eS : ErC K (He.ga K "Stopped") "RuntimeError.__new__" PySem.OEG.bmR
  fF : PySem.W.findIn K (.ref (He.ga K "Full")) "count" = some none
  fG : PySem.W.findIn K (.ref (He.ga K "Gone")) "number" = some none
  fC : PySem.W.findIn K (.ref (He.ga K "NoCut")) "block" = some none
  iO : PySem.W.findCls K (.type "OverflowError") (.type "type") "__init__" = some (.val (.builtin "OverflowError.__init__"))
  iL : PySem.W.findCls K (.type "LookupError") (.type "type") "__init__" = some (.val (.builtin "LookupError.__init__"))
  iV : PySem.W.findCls K (.type "ValueError") (.type "type") "__init__" = some (.val (.builtin "ValueError.__init__"))
  iR : PySem.W.findCls K (.type "RuntimeError") (.type "type") "__init__" = some (.val (.builtin "RuntimeError.__init__"))
  exm : ∀ x ∈ (["Full", "Gone", "NoCut", "Stopped"] : List Str), PySem.W.exmAny K (.ref (He.ga K x)) (catN.map fun y => .ref (He.ga K y)) = some true
  kt : ∀ x ∈ (["Full", "Gone", "NoCut", "Stopped"] : List Str), ∀ y ∈ (["Full", "Gone", "NoCut"] : List Str), PySem.W.kitOne K (.ref (He.ga K x)) (.ref (He.ga K y)) = some (decide (x = y))
  kb : ∀ p ∈ ([("Full", "OverflowError"), ("Gone", "LookupError"), ("NoCut", "ValueError"), ("Stopped", "RuntimeError")] : List (Str × String)), ∀ y ∈ (["OverflowError", "LookupError", "ValueError"] : List String), PySem.W.kitOne K (.ref (He.ga K p.1)) (.type y) = some (decide (p.2 = y))
  ka : ∀ x ∈ (["Full", "Gone", "NoCut", "Stopped"] : List Str), PySem.W.kitAny K (.ref (He.ga K x)) [.type "KeyError", .type "IndexError"] = some false
  dist : (catN.map fun y => He.ga K y).Nodup
/-! ### heaps -/
/-- all tracked objects but those at fp stand as they stood; tuples always -/
structure Kp (fp : List Addr) (H H' : Hp) : Prop where
  keep : ∀ b o, H b = some o → b ∉ fp → H' b = some o
  tups : ∀ b xs, H b = some (.tup xs) → H' b = some (.tup xs)
theorem Kp.refl {fp : List Addr} (H : Hp) : Kp fp H H := ⟨fun _ _ e _ => e, fun _ _ e => e⟩
theorem Kp.trans {fp : List Addr} {H H1 H2 : Hp} (a : Kp fp H H1) (b : Kp fp H1 H2) : Kp fp H H2 := ⟨fun c o e n => b.keep c o (a.keep c o e n) n, fun c xs e => b.tups c xs (a.tups c xs e)⟩
theorem Kp.mono {fp fp' : List Addr} {H H' : Hp} (a : Kp fp H H') (h : ∀ x ∈ fp, x ∈ fp') : Kp fp' H H' := ⟨fun c o e n => a.keep c o e fun z => n (h c z), a.tups⟩
theorem Kp.same {fp : List Addr} {H H' : Hp} (s : Same H H') : Kp fp H H' := ⟨fun b o e _ => s b o e, fun b xs e => s b _ e⟩
theorem Kp.toSame {H H' : Hp} (k : Kp [] H H') : Same H H' := fun b o e => k.keep b o e (by simp)
/-- a new object -/
theorem sameNew {H : Hp} {p : Addr} {o : HO} (h : H p = none) : Same H (upd H p o) := fun b u e => by rw [upd_ne (ne_of_none e h)]; exact e
theorem Kp.new {fp : List Addr} {H : Hp} {p : Addr} {o : HO} (h : H p = none) : Kp fp H (upd H p o) := .same (sameNew h)
/-- an object changed that is no tuple -/
theorem Kp.put {fp : List Addr} {H : Hp} {p : Addr} {o u : HO} (h : H p = some u) (ht : ∀ xs, u ≠ .tup xs) (hp : p ∈ fp) : Kp fp H (upd H p o) := ⟨fun b v e n => by
  have hb : b ≠ p := fun z => n (by rw [z]; exact hp)
  rw [upd_ne hb]; exact e, fun b xs e => by rw [upd_ne (fun z => by rw [z, h] at e; exact ht xs (Option.some.inj e))]; exact e⟩
theorem Kp.free {fp : List Addr} {H H' : Hp} (k : Kp fp H H') {l : Addr} (h : H' l = none) (hn : l ∉ fp) : H l = none := by
  cases q : H l with
  | none => rfl
  | some o => rw [k.keep l o q hn] at h; cases h
/-! ### data -/
/-- a RECORD, a block: a tuple of values -/
def Rec (H : Hp) (v : V) (r : List V) : Prop := ∃ a, v = .ref a ∧ H a = some (.tup r)
abbrev Recs (H : Hp) : List V → List (List V) → Prop := Paired (Rec H)
theorem Rec.kp {fp : List Addr} {H H' : Hp} (k : Kp fp H H') {v : V} {r : List V} (h : Rec H v r) : Rec H' v r := by
  obtain ⟨a, e, h⟩ := h
  exact ⟨a, e, k.tups a r h⟩
theorem Recs.kp {fp : List Addr} {H H' : Hp} (k : Kp fp H H') {vs : List V} {rs : List (List V)} (h : Recs H vs rs) : Recs H' vs rs := Paired.mapP h fun _ _ z => z.kp k
theorem pr_len {α β : Type} {F : α → β → Prop} : ∀ {xs : List α} {ys : List β}, Paired F xs ys → xs.length = ys.length
  | _, _, .nil => rfl
  | _, _, .cons _ t => by simp [pr_len t]
theorem pr_get {α β : Type} {F : α → β → Prop} : ∀ {xs : List α} {ys : List β} {i : Nat} {x : α}, Paired F xs ys → xs[i]? = some x → ∃ y, ys[i]? = some y ∧ F x y
  | _, _, i, x, .nil, e => by simp at e
  | _, _, 0, x, .cons r t, e => by simp at e; subst e; exact ⟨_, rfl, r⟩
  | _, _, i + 1, x, .cons r t, e => by
    obtain ⟨y, a, b⟩ := pr_get (i := i) (x := x) t (by simpa using e)
    exact ⟨y, by simpa using a, b⟩
theorem pr_append {α β : Type} {F : α → β → Prop} : ∀ {xs xs' : List α} {ys ys' : List β}, Paired F xs ys → Paired F xs' ys' → Paired F (xs ++ xs') (ys ++ ys')
  | _, _, _, _, .nil, q => q
  | _, _, _, _, .cons r t, q => .cons r (pr_append t q)
theorem pr_drop {α β : Type} {F : α → β → Prop} : ∀ {xs : List α} {ys : List β} (n : Nat), Paired F xs ys → Paired F (xs.drop n) (ys.drop n)
  | _, _, 0, h => h
  | _, _, _ + 1, .nil => .nil
  | _, _, n + 1, .cons _ t => pr_drop n t
theorem pr_take {α β : Type} {F : α → β → Prop} : ∀ {xs : List α} {ys : List β} (n : Nat), Paired F xs ys → Paired F (xs.take n) (ys.take n)
  | _, _, 0, _ => .nil
  | _, _, _ + 1, .nil => .nil
  | _, _, n + 1, .cons r t => .cons r (pr_take n t)
theorem pr_set {α β : Type} {F : α → β → Prop} {x : α} {y : β} (h : F x y) : ∀ {xs : List α} {ys : List β} (n : Nat), Paired F xs ys → Paired F (xs.set n x) (ys.set n y)
  | _, _, _, .nil => .nil
  | _, _, 0, .cons _ t => .cons h t
  | _, _, n + 1, .cons r t => .cons r (pr_set h n t)
theorem pr_one {α β : Type} {F : α → β → Prop} {x : α} {y : β} (h : F x y) : Paired F [x] [y] := .cons h .nil
/-- an atom -/
def flat1 (v : V) : Bool := match v with
  | .non => true
  | .int _ => true
  | .str _ => true
  | _ => false
/-- RECORDs as the ATOMs behind the head of a block -/
def enc (rs : List (List V)) : List V := rs.flatMap fun r => .int r.length :: r
abbrev Pt := RM.Part (List V)
abbrev Pl := RM.Plate (List V)
def encP (p : Pt) : List V := .str "log" :: .int p.num :: .int p.ep :: .int p.fst :: .int p.recs.length :: enc p.recs
def encB : Option Pt → List V
  | none => []
  | some p => encP p
def RecOk (r : List V) : Prop := 1 ≤ r.length ∧ r.length ≤ 8
/-- a part of a bounded size -/
def PtOk (p : Pt) : Prop := (∀ r ∈ p.recs, RecOk r) ∧ p.recs.length ≤ 100
def PlOk (S : Pl) : Prop := ∀ p, some p ∈ S → PtOk p
theorem enc_len : ∀ (rs : List (List V)), (∀ r ∈ rs, RecOk r) → (enc rs).length ≤ 9 * rs.length
  | [], _ => by simp [enc]
  | r :: rs, h => by
    have ih := enc_len rs fun x hx => h x (List.mem_cons_of_mem _ hx)
    have h1 := (h r List.mem_cons_self).2
    simp only [enc, List.flatMap_cons, List.length_append, List.length_cons] at ih ⊢
    omega
end K51
end L2
set_option Elab.async false
set_option linter.all false
set_option maxRecDepth 100000
set_option maxHeartbeats 4000000
/-! KD1: is_count, records_in, part_of, packed. -/
namespace L2
open PySem PySem.Spec PyProof.Rows
namespace K51
theorem ifT {b : Bool} {A B : Prop} (h : b = true) (x : A) : if b = true then A else B := by rw [if_pos h]; exact x
theorem ifF {b : Bool} {A B : Prop} (h : b = false) (x : B) : if b = true then A else B := by rw [if_neg (by rw [h]; exact Bool.false_ne_true)]; exact x
theorem tyL {K : PySem.W.Frag} {H : Hp} {l : Addr} {xs : List V} (h : H l = some (.lst xs)) : tyV K "list" (.ref l) H := .inl ⟨rfl, _, SqL.of h⟩
/-- a slice by natural bounds -/
theorem cut_nn (xs : List V) (i j : Nat) (hi : i ≤ xs.length) (hj : j ≤ xs.length) : cutV xs (some (i : Int)) (some (j : Int)) = (xs.drop i).take (j - i) := by
  unfold cutV
  rw [HT.sIx_nat, HT.sIx_nat, Nat.min_eq_left hi, Nat.min_eq_left hj]
theorem cut_n (xs : List V) (i : Nat) (hi : i ≤ xs.length) : cutV xs (some (i : Int)) none = xs.drop i := by
  unfold cutV
  rw [HT.sIx_nat, HT.sIx_none, Nat.min_eq_left hi, List.take_of_length_le (by rw [List.length_drop]; omega)]
theorem cut_t (xs : List V) (j : Nat) (hj : j ≤ xs.length) : cutV xs none (some (j : Int)) = xs.take j := by
  unfold cutV
  rw [HT.sIx_nat, HT.sIx_none, Nat.min_eq_left hj]
  simp
theorem enc_cons (r : List V) (rs : List (List V)) : enc (r :: rs) = .int r.length :: (r ++ enc rs) := by simp [enc]
theorem enc_append (rs qs : List (List V)) : enc (rs ++ qs) = enc rs ++ enc qs := by simp [enc]
/-- the ATOMs from the i-th RECORD on -/
theorem enc_drop {rs : List (List V)} {i : Nat} {r : List V} (h : rs[i]? = some r) : (enc rs).drop (enc (rs.take i)).length = .int r.length :: (r ++ enc (rs.drop (i + 1))) ∧ (enc (rs.take i)).length + 1 + r.length ≤ (enc rs).length := by
  have hl : i < rs.length := (List.getElem?_eq_some_iff.mp h).1
  have e0 : rs.drop i = r :: rs.drop (i + 1) := by
    rw [List.drop_eq_getElem_cons hl]
    have := (List.getElem?_eq_some_iff.mp h).2
    rw [this]
  have e : enc rs = enc (rs.take i) ++ (.int r.length :: (r ++ enc (rs.drop (i + 1)))) := by
    conv => lhs; rw [← List.take_append_drop i rs]
    rw [enc_append, e0, enc_cons]
  refine ⟨?_, ?_⟩
  · conv => lhs; rw [e]
    rw [List.drop_left']
    rfl
  · rw [e]
    simp only [List.length_append, List.length_cons]
    omega
theorem enc_take {rs : List (List V)} {i : Nat} {r : List V} (h : rs[i]? = some r) : enc (rs.take (i + 1)) = enc (rs.take i) ++ (.int r.length :: r) := by
  rw [List.take_add_one, h, enc_append]
  simp [enc]
section
variable {P : Program} {w : World} {K : PySem.W.Frag} {mg : Str → Option Value} {base : Heap} {f : Addr} {fd : FuncData}
abbrev sIsCount : Stmt := topS 14
def spIsCount : Sp := fun vs H Q _ => ∃ n : Int, vs = [.int n] ∧ 0 ≤ n ∧ Q (.bl true) H
theorem sc14 : FnScope ["atom"] ["atom"] (defScope sIsCount) := ⟨rfl, rfl, rfl, by decide +kernel, rfl, by decide +kernel, by decide +kernel⟩
theorem ok_is_count (T : Tx K mg) (F : FnP K "is_count" "is_count" sIsCount f fd) : FnOk P w K mg base (L2.CX P w) 1 f fd ["atom"] spIsCount := by
  have sc := sc14
  refine F.ok sc (fun vs H Q E h => ?_) (fun cdv A outer s H vs Q E hr h => ?_)
  · obtain ⟨n, rfl, _⟩ := h
    rfl
  · obtain ⟨n, rfl, hn, k⟩ := h
    refine ⟨_, PSs.nox (pss_one (ps_ret (pe_and (pe_callB call_isi (by rfl) (T.fr "isinstance" (by decide +kernel)) (by decide +kernel) (pa_cons (pv 0) (pa_cons (pe_bltn (v := .ty "int") (by rfl) (T.fr "int" (by decide +kernel)) (by decide +kernel) rfl) pa_nil))) (pe_and (pe_not (pe_callB call_isi (by rfl) (T.fr "isinstance" (by decide +kernel)) (by decide +kernel) (pa_cons (pv 0) (pa_cons (pe_bltn (v := .ty "bool") (by rfl) (T.fr "bool" (by decide +kernel)) (by decide +kernel) rfl) pa_nil)))) (pe_one (pe_cmpR op_ge (pv 0) pe_int (nomark _))))))), ?_⟩
    refine ⟨_, rfl, _, _, _, _, true, rfl, .ty "int", .base (.int n), kit_ty (by decide +kernel), true, rfl, iteT ?_⟩
    refine ⟨_, rfl, _, _, _, _, false, rfl, .ty "bool", .base (.int n), kit_ty (by decide +kernel), false, rfl, true, rfl, iteT ?_⟩
    refine ⟨_, rfl, _, _, rfl, rfl, ?_⟩
    show Q (.bl (decide (0 ≤ n))) H
    rw [decide_eq_true hn]
    exact k

abbrev sRecordsIn : Stmt := topS 15
def spRecordsIn : Sp := fun vs H Q _ => ∃ (a : Addr) (rs : List (List V)), vs = [.ref a] ∧ H a = some (.tup (enc rs)) ∧ (∀ r ∈ rs, RecOk r) ∧ rs.length ≤ 100 ∧ ∀ H' p ps, H p = none → H' p = some (.lst ps) → Recs H' ps rs → Same H H' → Q (.ref p) H'
theorem sc15 : FnScope ["atoms", "found", "at", "size"] ["atoms"] (defScope sRecordsIn) := ⟨rfl, rfl, rfl, by decide +kernel, rfl, by decide +kernel, by decide +kernel⟩
theorem ok_records_in (T : Tx K mg) (kC : Kn P w K mg base (L2.CX P w) 1 (He.ga K "is_count") ["atom"] spIsCount) (F : FnP K "records_in" "records_in" sRecordsIn f fd) : FnOk P w K mg base (L2.CX P w) 2 f fd ["atoms"] spRecordsIn := by
  have sc := sc15
  obtain ⟨_, G_is_count, b_is_count, k_is_count⟩ := kC
  obtain ⟨tA, hA⟩ := T.cA
  refine F.ok sc (fun vs H Q E h => ?_) (fun cdv A outer s H vs Q E hr h => ?_)
  · obtain ⟨a, rs, rfl, _⟩ := h
    rfl
  · obtain ⟨a, rs, rfl, ha, hok, hz, k⟩ := h
    have hez := enc_len rs hok
    refine ⟨_, PSs.nox (pss_cons (ps_par (i := 1) (j := 2) (by rfl) sc.nd rfl rfl (by decide) rfl rfl (pa_cons (pe_lst pa_nil) (pa_cons pe_int pa_nil)) (by rfl))
  (pss_cons (ps_while PassesOwn.never (pt_cmpR op_lt (pv 2) (pe_callB call_len (by rfl) (T.fr "len" (by decide +kernel)) (by decide +kernel) (pa_cons (pv 0) pa_nil)) (nomark _))
  (pss_cons (ps_set (i := 3) sc.nd rfl (Or.inl rfl) (pe_ix ix_tup (pv 0) (pv 2) (fun _ _ => rfl)))
  (pss_cons (ps_if (PW.pt (pw_or (pt_not (pt_val (pe_call G_is_count (hr.mono (by decide)) rfl (T.gl "is_count" (by decide +kernel)) k_is_count b_is_count .nil passL (pa_cons (pv 3) pa_nil)))) (pw_or (pt_not (pt_chain op_le op_le pe_int (pv 3) (pe_glob (v := .int 8) rfl hA ⟨_, rfl⟩))) (pw_or1 (pt_cmpR op_ge (pe_op op_add (pv 2) (pv 3)) (pe_callB call_len (by rfl) (T.fr "len" (by decide +kernel)) (by decide +kernel) (pa_cons (pv 0) pa_nil)) (nomark _))))))
  (pss_one (ps_ret pe_non))
  pss_nil)
  (pss_cons (ps_expr (pe_bm PySem.F.plainAttrs_list PySem.F.slot_list_append PySem.F.type_list_append mt_append (pv 1) (pa_cons (pe_callTy call_tupleT (by rfl) (T.fr "tuple" (by decide +kernel)) (by decide +kernel) (pa_cons (pe_slice sl_tup (pv 0) (po_some (pe_op op_add (pv 2) pe_int)) (po_some (pe_op op_add (pe_op op_add (pv 2) pe_int) (pv 3)))) pa_nil)) pa_nil)))
  (pss_one (ps_aug (i := 2) sc.nd rfl (Or.inl rfl) (pe_op op_add pe_int (pv 3)) ip_add))))))
  (pss_one (ps_ret (pv 1))))), ?_⟩
    refine ⟨Nat.zero_le _, fun p hp => ⟨_, _, rfl, ?_⟩⟩
    have nap : a ≠ p := ne_of_none ha hp
    refine ⟨fun m σ H' => ∃ (i : Nat) (ps : List V) (sz : Option V), m = rs.length - i ∧ i ≤ rs.length ∧ σ = [some (.ref a), some (.ref p), some (.int (enc (rs.take i)).length), sz] ∧ H' p = some (.lst ps) ∧ Recs H' ps (rs.take i) ∧ Same H H',
      ⟨rs.length, 0, [], none, rfl, Nat.zero_le _, rfl, upd_same, .nil, sameNew hp⟩, ?_⟩
    rintro m σ H' ⟨i, ps, sz, rfl, hi, rfl, hP, hR, hS⟩
    have ha' : H' a = some (.tup (enc rs)) := hS _ _ ha
    refine ⟨_, rfl, _, rfl, _, _, rfl, .inr ⟨_, SqT.of ha', rfl⟩, _, _, rfl, rfl, _, rfl, ?_⟩
    by_cases hlt : i < rs.length
    · obtain ⟨r, hr1⟩ : ∃ r, rs[i]? = some r := ⟨_, List.getElem?_eq_getElem hlt⟩
      obtain ⟨e1, e2⟩ := enc_drop hr1
      have hrok := hok r (List.mem_of_getElem? hr1)
      refine ifT (decide_eq_true (by omega)) ?_
      refine ⟨fun σ2 H2 => ∃ (ps : List V) (sz : Option V), σ2 = [some (.ref a), some (.ref p), some (.int (enc (rs.take (i + 1))).length), sz] ∧ H2 p = some (.lst ps) ∧ Recs H2 ps (rs.take (i + 1)) ∧ Same H H2, ?_, ?_⟩
      · rintro σ2 H2 ⟨ps2, sz2, rfl, h1, h2, h3⟩
        exact ⟨_, by omega, i + 1, ps2, sz2, rfl, hlt, rfl, h1, h2, h3⟩
      refine ⟨_, rfl, _, rfl, _, _, _, _, rfl, rfl, SqT.of ha', atI_nat (v := .int r.length) ?_, ?_⟩
      · have : (enc rs)[(enc (rs.take i)).length]? = ((enc rs).drop (enc (rs.take i)).length)[0]? := by rw [List.getElem?_drop]; rfl
        rw [this, e1]; rfl
      refine ⟨_, rfl, _, rfl, (by omega), true, rfl, iteF ?_⟩
      refine ⟨_, rfl, _, _, rfl, rfl, _, rfl, ifT (decide_eq_true (by have := hrok.1; omega)) ?_⟩
      refine ⟨_, _, rfl, rfl, _, rfl, iteNS (by have := hrok.2; omega) ?_⟩
      refine ⟨_, rfl, _, rfl, _, _, rfl, rfl, _, rfl, _, _, rfl, .inr ⟨_, SqT.of ha', rfl⟩, _, _, rfl, rfl, _, rfl, ifF (decide_eq_false (by omega)) ?_⟩
      refine ⟨_, rfl, tyL hP, _, rfl, _, rfl, _, _, rfl, rfl, _, rfl, _, rfl, _, _, rfl, rfl, _, rfl, _, _, rfl, rfl, _, rfl, _, _, rfl, SqT.of ha', ?_, fun q hq => ?_⟩
      · rw [show (((enc (rs.take i)).length : Nat) : Int) + 1 = (((enc (rs.take i)).length + 1 : Nat) : Int) by omega, HT.sIx_nat]
        omega
      have npq : p ≠ q := ne_of_none hP hq
      have ecut : cutV (enc rs) (some ((((enc (rs.take i)).length : Nat) : Int) + 1)) (some ((((enc (rs.take i)).length : Nat) : Int) + 1 + ((r.length : Nat) : Int))) = r := by
        rw [show (((enc (rs.take i)).length : Nat) : Int) + 1 = (((enc (rs.take i)).length + 1 : Nat) : Int) by omega, show (((enc (rs.take i)).length + 1 : Nat) : Int) + ((r.length : Nat) : Int) = (((enc (rs.take i)).length + 1 + r.length : Nat) : Int) by omega,
          cut_nn _ _ _ (by omega) (by omega), ← List.drop_drop, e1, Nat.add_sub_cancel_left]
        simp
      refine ⟨_, _, rfl, SqT.of upd_same, _, _, _, rfl, rfl, (by rw [upd_ne npq]; exact hP), (by have := pr_len hR; rw [List.length_take] at this; rw [sizeLine_eq]; omega), ?_⟩
      refine ⟨_, rfl, _, rfl, _, _, rfl, rfl, _, _, rfl, rfl, ?_⟩
      have s1 : Same H' (upd H' q (.tup (cutV (enc rs) (some ((((enc (rs.take i)).length : Nat) : Int) + 1)) (some ((((enc (rs.take i)).length : Nat) : Int) + 1 + ((r.length : Nat) : Int)))))) := sameNew hq
      have k1 : Kp [p] H' (upd (upd H' q (.tup (cutV (enc rs) (some ((((enc (rs.take i)).length : Nat) : Int) + 1)) (some ((((enc (rs.take i)).length : Nat) : Int) + 1 + ((r.length : Nat) : Int)))))) p (.lst (ps ++ [.ref q]))) :=
        (Kp.same s1).trans (Kp.put (u := .lst ps) (by rw [upd_ne npq]; exact hP) (fun _ z => by cases z) (by simp))
      have eat : (((enc (rs.take i)).length : Nat) : Int) + (1 + ((r.length : Nat) : Int)) = (((enc (rs.take (i + 1))).length : Nat) : Int) := by
        rw [enc_take hr1, List.length_append, List.length_cons]
        omega
      refine ⟨ps ++ [.ref q], some (.int r.length), ?_, upd_same, ?_, fun b o e => ?_⟩
      · rw [← eat]
        rfl
      · rw [List.take_add_one, hr1]
        refine pr_append (hR.kp k1) (pr_one ⟨q, rfl, ?_⟩)
        rw [upd_ne (Ne.symm npq), upd_same, ecut]
      · exact k1.keep b o (hS b o e) (by simpa using ne_of_none e hp)
    · have hie : i = rs.length := by omega
      subst hie
      rw [List.take_length] at hR ⊢
      refine ifF (decide_eq_false (by omega)) ?_
      exact ⟨_, rfl, k H' p ps hp hP hR hS⟩

/-- what part_of hands back for a block -/
def PartV (H : Hp) (v : V) : Option Pt → Prop
  | none => v = .non
  | some p => ∃ (t l : Addr) (ps : List V), v = .ref t ∧ H t = some (.tup [.int p.num, .int p.ep, .int p.fst, .ref l]) ∧ H l = some (.lst ps) ∧ Recs H ps p.recs
theorem PartV.same {H H' : Hp} (s : Same H H') {v : V} : ∀ {ob : Option Pt}, PartV H v ob → PartV H' v ob
  | none, h => h
  | some p, h => by
    obtain ⟨t, l, ps, e, h1, h2, h3⟩ := h
    exact ⟨t, l, ps, e, s _ _ h1, s _ _ h2, h3.kp (Kp.same (fp := []) s)⟩
abbrev sPartOf : Stmt := topS 16
def spPartOf : Sp := fun vs H Q _ => ∃ (a : Addr) (ob : Option Pt), vs = [.ref a] ∧ H a = some (.tup (encB ob)) ∧ (∀ p, ob = some p → PtOk p) ∧ ∀ H' v, PartV H' v ob → Same H H' → Q v H'
theorem sc16 : FnScope ["block", "records", "atom"] ["block"] (defScope sPartOf) := ⟨rfl, rfl, rfl, by decide +kernel, rfl, by decide +kernel, by decide +kernel⟩
theorem ok_part_of (T : Tx K mg) (kC : Kn P w K mg base (L2.CX P w) 1 (He.ga K "is_count") ["atom"] spIsCount) (kR : Kn P w K mg base (L2.CX P w) 2 (He.ga K "records_in") ["atoms"] spRecordsIn) (F : FnP K "part_of" "part_of" sPartOf f fd) : FnOk P w K mg base (L2.CX P w) 3 f fd ["block"] spPartOf := by
  have sc := sc16
  obtain ⟨_, G_is_count, b_is_count, k_is_count⟩ := kC
  obtain ⟨_, G_records_in, b_records_in, k_records_in⟩ := kR
  obtain ⟨tH, hH⟩ := T.cH
  obtain ⟨tM, hM⟩ := T.cM
  refine F.ok sc (fun vs H Q E h => ?_) (fun cdv A outer s H vs Q E hr h => ?_)
  · obtain ⟨a, rs, rfl, _⟩ := h
    rfl
  · obtain ⟨a, ob, rfl, ha, hok, k⟩ := h
    refine ⟨_, PSs.nox (pss_cons (ps_if (PW.pt (pw_or (pt_cmpR op_lt (pe_callB call_len (by rfl) (T.fr "len" (by decide +kernel)) (by decide +kernel) (pa_cons (pv 0) pa_nil)) (pe_glob (v := .int 5) rfl hH ⟨_, rfl⟩) (nomark _)) (pw_or (pt_cmpR op_ne (pe_ix ix_tup (pv 0) pe_int (fun _ _ => rfl)) (pe_glob (v := .str "log") rfl hM ⟨_, rfl⟩) (nomark _)) (pw_or1 (pt_not (pt_val (pe_callB (cr_all rfl) (by rfl) (T.fr "all" (by decide +kernel)) (by decide +kernel) (pa_cons (pe_lc (own := [("atom", 2)]) (g := gName 2) (tt := tYes) rfl sc.nd (pi_tup (pe_slice sl_tup (pv 0) (po_some pe_int) (po_some (pe_glob (v := .int 5) rfl hH ⟨_, rfl⟩)))) (blkOk_by (N := ["block", "records", "atom"]) (sc := defScope sPartOf) (by decide +kernel)) (fun _ _ _ _ _ => pg_name (i := 2) sc.nd rfl (Or.inl rfl)) (fun _ _ _ _ _ => pts_nil) (fun _ _ _ _ _ => (pe_call G_is_count (hr.mono (by decide)) rfl (T.gl "is_count" (by decide +kernel)) k_is_count b_is_count .nil passL (pa_cons (pv 2) pa_nil)))) pa_nil))))))))
  (pss_one (ps_ret pe_non))
  pss_nil)
  (pss_cons (ps_set (i := 1) sc.nd rfl (Or.inl rfl) (pe_call G_records_in (hr.mono (by decide)) rfl (T.gl "records_in" (by decide +kernel)) k_records_in b_records_in .nil passL (pa_cons (pe_slice sl_tup (pv 0) (po_some (pe_glob (v := .int 5) rfl hH ⟨_, rfl⟩)) po_none) pa_nil)))
  (pss_cons (ps_if (PW.pt (pw_or (pt_cmp (pc_isN (pv 1))) (pw_or1 (pt_cmpR op_ne (pe_callB call_len (by rfl) (T.fr "len" (by decide +kernel)) (by decide +kernel) (pa_cons (pv 1) pa_nil)) (pe_ix ix_tup (pv 0) pe_int (fun _ _ => rfl)) (nomark _)))))
  (pss_one (ps_ret pe_non))
  pss_nil)
  (pss_one (ps_ret (pe_tup (pa_cons (pe_ix ix_tup (pv 0) pe_int (fun _ _ => rfl)) (pa_cons (pe_ix ix_tup (pv 0) pe_int (fun _ _ => rfl)) (pa_cons (pe_ix ix_tup (pv 0) pe_int (fun _ _ => rfl)) (pa_cons (pv 1) pa_nil)))))))))), ?_⟩
    refine ⟨_, rfl, _, _, rfl, .inr ⟨_, SqT.of ha, rfl⟩, _, _, rfl, rfl, _, rfl, ?_⟩
    cases ob with
    | none => exact ifT (decide_eq_true (by decide)) (iteT (k H .non rfl (Same.refl H)))
    | some p =>
      obtain ⟨hro, hrl⟩ := hok p rfl
      have hez := enc_len p.recs hro
      have elen : (encB (some p)).length = 5 + (enc p.recs).length := by simp [encB, encP]; omega
      refine ifF (decide_eq_false (by omega)) ?_
      refine ⟨_, rfl, _, _, _, _, rfl, rfl, SqT.of ha, atI_nat (j := 0) (v := .str "log") rfl, rfl, _, rfl, iteNS rfl ?_⟩
      refine ⟨_, rfl, _, rfl, _, rfl, _, _, rfl, SqT.of ha, (fun z => absurd z.1 (by rw [show (1 : Int) = ((1 : Nat) : Int) from rfl, HT.sIx_nat]; omega)), fun q hq => ⟨q, rfl, ⟨_, SqT.of upd_same⟩, fun D hD => ?_⟩⟩
      have ecut : cutV (encB (some p)) (some 1) (some 5) = [.int p.num, .int p.ep, .int p.fst, .int p.recs.length] := by
        rw [show (1 : Int) = ((1 : Nat) : Int) from rfl, show (5 : Int) = ((5 : Nat) : Int) from rfl, cut_nn _ _ _ (by omega) (by omega)]
        rfl
      rw [ecut] at hD ⊢
      have nqD : q ≠ D := fun z => by rw [z, upd_same] at hD; cases hD
      have hD0 : H D = none := by rw [upd_ne (Ne.symm nqD)] at hD; exact hD
      have s1 : Same H (upd H q (.tup [.int p.num, .int p.ep, .int p.fst, .int p.recs.length])) := sameNew hq
      refine lc_tup (K := K) (a := q) (xs := [.int p.num, .int p.ep, .int p.fst, .int p.recs.length]) (fun i H' => Same H H' ∧ H' q = some (.tup [.int p.num, .int p.ep, .int p.fst, .int p.recs.length]) ∧ H' D = some (.lst ((List.replicate i true).map V.bl)))
        ⟨s1.trans (sameNew hD), by rw [upd_ne nqD, upd_same], upd_same⟩ (fun i H' _ h => SqT.of h.2.1) ?_ ?_
      · rintro i x H' hx ⟨h1, h2, h3⟩
        have hi : i < 4 := (List.getElem?_eq_some_iff.mp hx).1
        obtain ⟨n, rfl⟩ : ∃ n : Nat, x = .int n := by
          match i, hi, hx with
          | 0, _, hx => exact ⟨_, (Option.some.inj hx).symm⟩
          | 1, _, hx => exact ⟨_, (Option.some.inj hx).symm⟩
          | 2, _, hx => exact ⟨_, (Option.some.inj hx).symm⟩
          | 3, _, hx => exact ⟨_, (Option.some.inj hx).symm⟩
        refine ⟨rfl, ?_⟩
        refine ⟨_, rfl, _, rfl, Int.natCast_nonneg _, _, h3, (by rw [List.length_map, List.length_replicate, sizeLine_eq]; omega), ?_⟩
        refine ⟨fun b o e => ?_, ?_, ?_⟩
        · rw [upd_ne (ne_of_none e hD0)]; exact h1 b o e
        · rw [upd_ne nqD]; exact h2
        · rw [upd_same, List.replicate_succ', List.map_append]; rfl
      · rintro H' ⟨h1, h2, h3⟩
        have ha' : H' a = some (.tup (encB (some p))) := h1 _ _ ha
        refine ⟨_, _, rfl, SqL.of h3, true, rfl, iteF ?_⟩
        refine ⟨_, rfl, _, rfl, _, _, rfl, SqT.of ha', (fun z => absurd z.1 (by rw [show (5 : Int) = ((5 : Nat) : Int) from rfl, HT.sIx_nat]; omega)), fun q2 hq2 => ?_⟩
        have ecut2 : cutV (encB (some p)) (some 5) none = enc p.recs := by
          rw [show (5 : Int) = ((5 : Nat) : Int) from rfl, cut_n _ _ (by omega)]
          rfl
        rw [ecut2]
        refine ⟨q2, p.recs, rfl, upd_same, hro, hrl, fun H3 l ps hl0 hl hR hS => ?_⟩
        have s3 : Same H' H3 := (sameNew hq2).trans hS
        have ha3 : H3 a = some (.tup (encB (some p))) := s3 _ _ ha'
        refine ⟨_, rfl, _, rfl, iteF ?_⟩
        refine ⟨_, rfl, _, _, rfl, .inl ⟨_, SqL.of hl, rfl⟩, _, rfl, _, _, _, _, rfl, rfl, SqT.of ha3, atI_nat (j := 4) (v := .int p.recs.length) rfl, rfl, _, rfl, ?_⟩
        rw [pr_len hR]
        refine iteNS rfl ?_
        refine ⟨_, rfl, _, _, _, _, rfl, rfl, SqT.of ha3, atI_nat (j := 1) (v := .int p.num) rfl, _, rfl, _, _, _, _, rfl, rfl, SqT.of ha3, atI_nat (j := 2) (v := .int p.ep) rfl, _, rfl, _, _, _, _, rfl, rfl, SqT.of ha3, atI_nat (j := 3) (v := .int p.fst) rfl, _, rfl, (by show 4 ≤ sizeLine; decide), fun t ht => ?_⟩
        refine k _ _ ⟨t, l, ps, rfl, upd_same, ?_, hR.kp (Kp.new (fp := []) ht)⟩ (h1.trans (s3.trans (sameNew ht)))
        rw [upd_ne (ne_of_none hl ht)]; exact hl
end
end K51
end L2
set_option Elab.async false
set_option linter.all false
set_option maxRecDepth 100000
set_option maxHeartbeats 4000000
/-! KD2: packed. -/
namespace L2
open PySem PySem.Spec PyProof.Rows
namespace K51
theorem pr_snoc {α β : Type} {F : α → β → Prop} : ∀ {xs : List α} {ys : List β} {y : β}, Paired F xs (ys ++ [y]) → ∃ xs0 x, xs = xs0 ++ [x] ∧ Paired F xs0 ys ∧ F x y
  | _, [], y, .cons r .nil => ⟨[], _, rfl, .nil, r⟩
  | _, y0 :: ys, y, .cons r t => by
    obtain ⟨xs0, x, e, h1, h2⟩ := pr_snoc (ys := ys) t
    exact ⟨_ :: xs0, x, by rw [e]; rfl, .cons r h1, h2⟩
theorem pr_mem {α β : Type} {F G : α → β → Prop} : ∀ {xs : List α} {ys : List β}, Paired F xs ys → (∀ x ∈ xs, ∀ y, F x y → G x y) → Paired G xs ys
  | _, _, .nil, _ => .nil
  | _, _, .cons r t, h => .cons (h _ List.mem_cons_self _ r) (pr_mem t fun x hx => h x (List.mem_cons_of_mem _ hx))
/-- a group: a list of RECORDs -/
def Grp (H : Hp) (v : V) (g : List (List V)) : Prop := ∃ a vs, v = .ref a ∧ H a = some (.lst vs) ∧ Recs H vs g
theorem Grp.kp {fp : List Addr} {H H' : Hp} (k : Kp fp H H') {v : V} {g : List (List V)} (h : Grp H v g) (hn : ∀ a, v = .ref a → a ∉ fp) : Grp H' v g := by
  obtain ⟨a, vs, e, h1, h2⟩ := h
  exact ⟨a, vs, e, k.keep a _ h1 (hn a e), h2.kp k⟩
abbrev Grps (H : Hp) : List V → List (List (List V)) → Prop := Paired (Grp H)
theorem Grps.same {H H' : Hp} (s : Same H H') {gv : List V} {gs : List (List (List V))} (h : Grps H gv gs) : Grps H' gv gs := Paired.mapP h fun _ _ z => z.kp (Kp.same (fp := []) s) fun _ _ => by simp
abbrev pk8 : List (List V) → List (List (List V)) := RM.pack List.length
def roomOf (gs : List (List (List V))) : Int := match gs.getLast? with
  | none => 0
  | some g => 19 - RM.used List.length g
section
variable {P : Program} {w : World} {K : PySem.W.Frag} {mg : Str → Option Value} {base : Heap} {f : Addr} {fd : FuncData}
abbrev sPacked : Stmt := topS 17
/-- the list of RECORDs at a -/
def spPacked (K : PySem.W.Frag) : Sp := fun vs H Q _ => ∃ (a : Addr) (us : List V) (rs : List (List V)), vs = [.ref a] ∧ SqL K H a us ∧ Recs H us rs ∧ rs.length ≤ 1000 ∧ ∀ H' p gv, H p = none → H' p = some (.lst gv) → Grps H' gv (pk8 rs) → Same H H' → (∀ x ∈ gv, ∃ b, x = .ref b ∧ b ≠ p ∧ H b = none) → Q (.ref p) H'
theorem sc17 : FnScope ["records", "record", "found", "room"] ["records"] (defScope sPacked) := ⟨rfl, rfl, rfl, by decide +kernel, rfl, by decide +kernel, by decide +kernel⟩
theorem ok_packed (T : Tx K mg) (F : FnP K "packed" "packed" sPacked f fd) : FnOk P w K mg base (L2.CX P w) 1 f fd ["records"] (spPacked K) := by
  have sc := sc17
  obtain ⟨tH, hH⟩ := T.cH
  obtain ⟨tW, hW⟩ := T.cW
  refine F.ok sc (fun vs H Q E h => ?_) (fun cdv A outer s H vs Q E hr h => ?_)
  · obtain ⟨a, us, rs, rfl, _⟩ := h
    rfl
  · obtain ⟨a, us, rs, rfl, ha, hR, hz, k⟩ := h
    refine ⟨_, PSs.nox (pss_cons (ps_par (i := 2) (j := 3) (by rfl) sc.nd rfl rfl (by decide) rfl rfl (pa_cons (pe_lst pa_nil) (pa_cons pe_int pa_nil)) (by rfl))
  (pss_cons (ps_for PassesOwn.never rfl (pi_list (pv 0)) (pg_name (i := 1) sc.nd rfl (Or.inl rfl))
  (pss_cons (ps_if (pt_cmpR op_gt (pe_op op_add (pe_callB call_len (by rfl) (T.fr "len" (by decide +kernel)) (by decide +kernel) (pa_cons (pv 1) pa_nil)) pe_int) (pv 3) (nomark _))
  (pss_cons (ps_expr (pe_bm PySem.F.plainAttrs_list PySem.F.slot_list_append PySem.F.type_list_append mt_append (pv 2) (pa_cons (pe_lst pa_nil) pa_nil)))
  (pss_one (ps_set (i := 3) sc.nd rfl (Or.inl rfl) (pe_op op_sub (pe_glob (v := .int 24) rfl hW ⟨_, rfl⟩) (pe_glob (v := .int 5) rfl hH ⟨_, rfl⟩)))))
  pss_nil)
  (pss_cons (ps_expr (pe_bm PySem.F.plainAttrs_list PySem.F.slot_list_append PySem.F.type_list_append mt_append (pe_ix ix_list (pv 2) (pe_un un_neg pe_int) (fun _ _ => rfl)) (pa_cons (pv 1) pa_nil)))
  (pss_one (ps_aug (i := 3) sc.nd rfl (Or.inl rfl) (pe_op op_add (pe_callB call_len (by rfl) (T.fr "len" (by decide +kernel)) (by decide +kernel) (pa_cons (pv 1) pa_nil)) pe_int) ip_sub)))))
  (pss_one (ps_ret (pv 2))))), ?_⟩
    refine ⟨Nat.zero_le _, fun p hp => ⟨_, _, rfl, ?_⟩⟩
    have s0 : Same H (upd H p (.lst [])) := sameNew hp
    have hlen : us.length = rs.length := pr_len hR
    refine ⟨_, rfl, a, rfl, ⟨_, s0.seq ha⟩, for_list (K := K) (a := a) (xs := us) (fun i σ H' => ∃ (gv : List V) (v : Option V), σ = [some (.ref a), v, some (.ref p), some (.int (roomOf (pk8 (rs.take i))))] ∧ H' p = some (.lst gv) ∧ Grps H' gv (pk8 (rs.take i)) ∧ Same H H' ∧ gv.Nodup ∧ ∀ x ∈ gv, ∃ b, x = .ref b ∧ b ≠ p ∧ H b = none)
      ⟨[], none, rfl, upd_same, .nil, s0, List.nodup_nil, fun x hx => absurd hx (by simp)⟩ (fun i σ H' _ ⟨_, _, _, _, _, s5, _⟩ => s5.seq ha) ?_ ?_⟩
    · rintro i x σ H' hx ⟨gv, v, rfl, hP, hG, hS, nd, hfr⟩
      obtain ⟨r, hr1, c, rfl, hc⟩ := pr_get hR hx
      have hc' : H' c = some (.tup r) := hS _ _ hc
      have hi : i < us.length := (List.getElem?_eq_some_iff.mp hx).1
      have hgl : gv.length ≤ i := by
        have h1 := pr_len hG
        have h2 : (pk8 (rs.take i)).length ≤ (rs.take i).length := (RM.pack_facts List.length (rs.take i)).2.2
        rw [List.length_take] at h2
        omega
      have ecp : c ≠ p := ne_of hc' hP (by intro z; cases z)
      have e1 : pk8 (rs.take (i + 1)) = RM.pk List.length (pk8 (rs.take i)) r := by
        rw [List.take_add_one, hr1]
        exact RM.pack_snoc List.length _ r
      refine ⟨_, rfl, _, _, rfl, .inr ⟨_, SqT.of hc', rfl⟩, _, _, rfl, rfl, _, rfl, _, _, rfl, rfl, _, rfl, ?_⟩
      -- what pk does, by cases
      by_cases hnew : roomOf (pk8 (rs.take i)) < (r.length : Int) + 1
      · refine ifT (decide_eq_true hnew) ?_
        have e2 : RM.pk List.length (pk8 (rs.take i)) r = pk8 (rs.take i) ++ [[r]] := by
          unfold RM.pk
          unfold roomOf at hnew
          cases eg : (pk8 (rs.take i)).getLast? with
          | none =>
            have : pk8 (rs.take i) = [] := by simpa using eg
            rw [this]; rfl
          | some g =>
            rw [eg] at hnew
            dsimp only at hnew ⊢
            rw [if_pos (by omega)]
        refine ⟨_, rfl, tyL hP, Nat.zero_le _, fun q hq => ?_⟩
        have npq : p ≠ q := ne_of_none hP hq
        refine ⟨_, _, _, rfl, rfl, (by rw [upd_ne npq]; exact hP), (by rw [sizeLine_eq]; omega), ?_⟩
        refine ⟨_, _, rfl, rfl, ?_⟩
        have hQ2 : upd (upd H' q (.lst [])) p (.lst (gv ++ [.ref q])) q = some (.lst []) := by rw [upd_ne (Ne.symm npq), upd_same]
        have ecq : c ≠ q := ne_of_none hc' hq
        refine ⟨_, rfl, _, rfl, _, _, _, .ref q, rfl, rfl, SqL.of upd_same, atI_last _ _, tyL hQ2, _, rfl, _, _, _, rfl, rfl, hQ2, (by rw [sizeLine_eq]; simp), ?_⟩
        have hc3 : upd (upd (upd H' q (.lst [])) p (.lst (gv ++ [.ref q]))) q (.lst ([] ++ [.ref c])) c = some (.tup r) := by
          rw [upd_ne ecq, upd_ne ecp, upd_ne ecq]; exact hc'
        refine ⟨_, rfl, _, rfl, _, _, rfl, .inr ⟨_, SqT.of hc3, rfl⟩, _, _, rfl, rfl, _, _, rfl, rfl, ?_⟩
        have hq0 : H q = none := hS.free hq
        have k1 : Kp [p, q] H' (upd (upd (upd H' q (.lst [])) p (.lst (gv ++ [.ref q]))) q (.lst ([] ++ [.ref c]))) :=
          ((Kp.new hq).trans (Kp.put (u := .lst gv) (by rw [upd_ne npq]; exact hP) (fun _ z => by cases z) (by simp))).trans (Kp.put (u := .lst []) hQ2 (fun _ z => by cases z) (by simp))
        refine ⟨gv ++ [.ref q], some (.ref c), ?_, by rw [upd_ne npq, upd_same], ?_, fun b o e => ?_, ?_, fun x hx => ?_⟩
        · rw [e1, e2]
          have : roomOf (pk8 (rs.take i) ++ [[r]]) = 24 - 5 - (((r.length : Nat) : Int) + 1) := by
            unfold roomOf
            rw [List.getLast?_append]
            simp [RM.used]
          rw [this]
          rfl
        · rw [e1, e2]
          refine pr_append (pr_mem hG fun x hx y z => z.kp k1 fun b eb => ?_) (pr_one ⟨q, _, rfl, upd_same, pr_one ⟨c, rfl, hc3⟩⟩)
          obtain ⟨b', eb', n1, n2⟩ := hfr x hx
          have ebb : b = b' := V.ref.inj (eb.symm.trans eb')
          subst ebb
          have nbq : b ≠ q := by
            obtain ⟨a1, vs1, z1, z2, _⟩ := z
            have : b = a1 := V.ref.inj (eb.symm.trans z1)
            subst this
            exact ne_of_none z2 hq
          simp [n1, nbq]
        · have nb1 := ne_of_none e hp
          have nb2 := ne_of_none e hq0
          exact k1.keep b o (hS b o e) (by simp [nb1, nb2])
        · refine List.nodup_append.mpr ⟨nd, by simp, fun x hx y hy => ?_⟩
          have : y = .ref q := by simpa using hy
          subst this
          intro z
          subst z
          obtain ⟨g, _, a1, vs1, z1, z2, _⟩ : ∃ g, g ∈ pk8 (rs.take i) ∧ Grp H' (.ref q) g := by
            obtain ⟨j, hj, ej⟩ := List.mem_iff_getElem.mp hx
            obtain ⟨g, eg, hg⟩ := pr_get hG (show gv[j]? = some (.ref q) by rw [List.getElem?_eq_getElem hj, ej])
            exact ⟨g, List.mem_of_getElem? eg, hg⟩
          cases z1
          rw [hq] at z2; cases z2
        · rcases List.mem_append.mp hx with z | z
          · exact hfr x z
          · have : x = .ref q := by simpa using z
            exact ⟨q, this, Ne.symm npq, hq0⟩
      · refine ifF (decide_eq_false hnew) ?_
        -- the last group takes it
        obtain ⟨g, eg⟩ : ∃ g, (pk8 (rs.take i)).getLast? = some g := by
          unfold roomOf at hnew
          cases eg : (pk8 (rs.take i)).getLast? with
          | none => rw [eg] at hnew; exact absurd (by show (0 : Int) < _; omega) hnew
          | some g => exact ⟨g, rfl⟩
        have eroom : roomOf (pk8 (rs.take i)) = 19 - RM.used List.length g := by unfold roomOf; rw [eg]
        have e2 : RM.pk List.length (pk8 (rs.take i)) r = (pk8 (rs.take i)).dropLast ++ [g ++ [r]] := by
          unfold RM.pk
          rw [eg]
          dsimp only
          rw [if_neg (by rw [eroom] at hnew; omega)]
        have esp := RM.snoc_of eg
        rw [esp] at hG
        obtain ⟨gv0, x0, rfl, hG0, b, vs, rfl, hb, hRb⟩ := pr_snoc hG
        obtain ⟨b', eb', nbp, hb0⟩ := hfr (.ref b) (by simp)
        cases eb'
        have nbc : b ≠ c := ne_of hb hc' (by intro z; cases z)
        refine ⟨_, rfl, _, rfl, _, _, _, .ref b, rfl, rfl, SqL.of hP, atI_last _ _, tyL hb, _, rfl, _, _, _, rfl, rfl, hb, ?_, ?_⟩
        · have h1 := pr_len hRb
          have h2 := (RM.pack_facts List.length (rs.take i)).1
          have h3 : g.length ≤ (pk8 (rs.take i)).flatten.length := by
            rw [esp, List.flatten_append, List.length_append]
            simp
          rw [show (pk8 (rs.take i)).flatten = rs.take i from h2, List.length_take] at h3
          rw [sizeLine_eq]
          omega
        have k1 : Kp [b] H' (upd H' b (.lst (vs ++ [.ref c]))) := Kp.put (u := .lst vs) hb (fun _ z => by cases z) (by simp)
        have hc3 : upd H' b (.lst (vs ++ [.ref c])) c = some (.tup r) := by rw [upd_ne (Ne.symm nbc)]; exact hc'
        refine ⟨_, rfl, _, rfl, _, _, rfl, .inr ⟨_, SqT.of hc3, rfl⟩, _, _, rfl, rfl, _, _, rfl, rfl, ?_⟩
        refine ⟨gv0 ++ [.ref b], some (.ref c), ?_, by rw [upd_ne (Ne.symm nbp)]; exact hP, ?_, fun b2 o e => ?_, nd, hfr⟩
        · rw [e1, e2]
          have : roomOf ((pk8 (rs.take i)).dropLast ++ [g ++ [r]]) = 19 - RM.used List.length g - (((r.length : Nat) : Int) + 1) := by
            unfold roomOf
            rw [List.getLast?_append]
            simp [RM.used]
            omega
          rw [this, eroom]
          rfl
        · rw [e1, e2]
          refine pr_append (pr_mem hG0 fun x hx y z => z.kp k1 fun b2 eb => ?_) (pr_one ⟨b, _, rfl, upd_same, pr_append (hRb.kp k1) (pr_one ⟨c, rfl, hc3⟩)⟩)
          have : b2 ≠ b := fun z => by
            subst z
            subst eb
            have := (List.nodup_append.mp nd).2.2 _ hx (.ref b2) (by simp)
            exact this rfl
          simpa using this
        · exact k1.keep b2 o (hS b2 o e) (by simpa using ne_of_none e hb0)
    · rintro σ H' ⟨gv, v, rfl, hP, hG, hS, _, hfr⟩
      rw [show us.length = rs.length from hlen, List.take_length] at hG
      exact ⟨_, rfl, k H' p gv hp hP hG hS hfr⟩
end
end K51
end L2
set_option Elab.async false
set_option linter.all false
set_option maxRecDepth 100000
set_option maxHeartbeats 4000000
/-! KD3: the errors' __init__, the disk. -/
namespace L2
open PySem PySem.Spec PyProof.Rows
namespace K51
section
variable {P : Program} {w : World} {K : PySem.W.Frag} {mg : Str → Option Value} {base : Heap} {f : Addr} {fd : FuncData}
abbrev sNoCutI : Stmt := inClass (topS 3) 0
abbrev sGoneI : Stmt := inClass (topS 6) 0
abbrev sStoppedI : Stmt := inClass (topS 7) 0
abbrev sFullI : Stmt := inClass (topS 8) 0
/-- C(n): one field -/
def spExI (C : Addr) (fl : Str) : Sp := fun vs H Q _ => ∃ (a : Addr) (n : Int), vs = [.ref a, .int n] ∧ n.natAbs.log2 < 1920 ∧ H a = some (exo a C none) ∧ ∀ dx, H dx = none → dx ≠ a → Q .non (upd (upd H dx (exd dx [(fl, .int n)])) a (exo a C (some dx)))
def spExN (C : Addr) : Sp := fun vs H Q _ => ∃ (a : Addr), vs = [.ref a] ∧ H a = some (exo a C none) ∧ Q .non H
theorem scFullI : FnScope ["self", "count"] ["self", "count"] (defScope sFullI) := ⟨rfl, rfl, rfl, by decide +kernel, rfl, by decide +kernel, by decide +kernel⟩
theorem scGoneI : FnScope ["self", "number"] ["self", "number"] (defScope sGoneI) := ⟨rfl, rfl, rfl, by decide +kernel, rfl, by decide +kernel, by decide +kernel⟩
theorem scNoCutI : FnScope ["self", "block"] ["self", "block"] (defScope sNoCutI) := ⟨rfl, rfl, rfl, by decide +kernel, rfl, by decide +kernel, by decide +kernel⟩
theorem scStoppedI : FnScope ["self"] ["self"] (defScope sStoppedI) := ⟨rfl, rfl, rfl, by decide +kernel, rfl, by decide +kernel, by decide +kernel⟩
theorem str_len_app (a b : Str) : (a ++ b).length = a.length + b.length := by
  show (a.cps ++ b.cps).size = a.cps.size + b.cps.size
  exact Array.size_append
theorem ok_full_init (T : Tx K mg) (F : FnP K "__init__" "Full.__init__" sFullI f fd) : FnOk P w K mg base (L2.CX P w) 1 f fd ["self", "count"] (spExI (He.ga K "Full") "count") := by
  have sc := scFullI
  refine F.ok sc (fun vs H Q E h => ?_) (fun cdv A outer s H vs Q E hr h => ?_)
  · obtain ⟨a, n, rfl, _⟩ := h
    rfl
  · obtain ⟨a, n, rfl, hn, ha, k⟩ := h
    refine ⟨_, PSs.nox (pss_cons (ps_expr (pe_binit PySem.OEG.baseO rfl (T.fr "OverflowError" (by decide +kernel)) (by decide +kernel) T.iO (pa_cons (pv 0) (pa_cons (pe_joined (.cons (pe_fmt (pv 1)) (.cons pe_str .nil))) pa_nil))))
      (pss_one (ps_os1 PySem.OEG.baseO (pv 0) (pv 1)))), ?_⟩
    have h1 := PyProof.Rows.int_text_len_1921 hn
    refine ⟨_, rfl, _, rfl, .inr ⟨n, rfl, hn, _, rfl, ?_, _, rfl, ?_, ?_⟩⟩
    · rw [str_len_app, sizeLine_eq]
      have : Str.empty.length = 0 := rfl
      omega
    · rw [str_len_app, str_len_app, sizeLine_eq]
      have : Str.empty.length = 0 := rfl
      have e2 : (Str.ofString " blocks are not enough").length = 22 := by decide +kernel
      omega
    refine ⟨a, _, _, rfl, (by simp), T.eF.ox, ha, ?_⟩
    exact ⟨_, rfl, _, rfl, a, _, rfl, T.eF.ox, T.fF, ha, fun dx h1 h2 => k dx h1 h2⟩
theorem ok_gone_init (T : Tx K mg) (F : FnP K "__init__" "Gone.__init__" sGoneI f fd) : FnOk P w K mg base (L2.CX P w) 1 f fd ["self", "number"] (spExI (He.ga K "Gone") "number") := by
  have sc := scGoneI
  refine F.ok sc (fun vs H Q E h => ?_) (fun cdv A outer s H vs Q E hr h => ?_)
  · obtain ⟨a, n, rfl, _⟩ := h
    rfl
  · obtain ⟨a, n, rfl, hn, ha, k⟩ := h
    refine ⟨_, PSs.nox (pss_cons (ps_expr (pe_binit PySem.OEG.baseL rfl (T.fr "LookupError" (by decide +kernel)) (by decide +kernel) T.iL (pa_cons (pv 0) (pa_cons (pe_joined (.cons pe_str (.cons (pe_fmt (pv 1)) (.cons pe_str .nil)))) pa_nil))))
      (pss_one (ps_os1 PySem.OEG.baseL (pv 0) (pv 1)))), ?_⟩
    have h1 := PyProof.Rows.int_text_len_1921 hn
    have e0 : Str.empty.length = 0 := rfl
    have e1 : (Str.ofString "record ").length = 7 := by decide +kernel
    have e2 : (Str.ofString " is not in the log").length = 18 := by decide +kernel
    refine ⟨_, rfl, _, rfl, ?_, _, rfl, .inr ⟨n, rfl, hn, _, rfl, ?_, _, rfl, ?_, ?_⟩⟩
    · rw [str_len_app, sizeLine_eq]; omega
    · rw [str_len_app, str_len_app, sizeLine_eq]; omega
    · rw [str_len_app, str_len_app, str_len_app, sizeLine_eq]; omega
    refine ⟨a, _, _, rfl, (by simp), T.eG.ox, ha, ?_⟩
    exact ⟨_, rfl, _, rfl, a, _, rfl, T.eG.ox, T.fG, ha, fun dx h1 h2 => k dx h1 h2⟩
theorem ok_nocut_init (T : Tx K mg) (F : FnP K "__init__" "NoCut.__init__" sNoCutI f fd) : FnOk P w K mg base (L2.CX P w) 1 f fd ["self", "block"] (spExI (He.ga K "NoCut") "block") := by
  have sc := scNoCutI
  refine F.ok sc (fun vs H Q E h => ?_) (fun cdv A outer s H vs Q E hr h => ?_)
  · obtain ⟨a, n, rfl, _⟩ := h
    rfl
  · obtain ⟨a, n, rfl, hn, ha, k⟩ := h
    refine ⟨_, PSs.nox (pss_cons (ps_expr (pe_binit PySem.OEG.baseV rfl (T.fr "ValueError" (by decide +kernel)) (by decide +kernel) T.iV (pa_cons (pv 0) (pa_cons (pe_joined (.cons pe_str (.cons (pe_fmt (pv 1)) .nil))) pa_nil))))
      (pss_one (ps_os1 PySem.OEG.baseV (pv 0) (pv 1)))), ?_⟩
    have h1 := PyProof.Rows.int_text_len_1921 hn
    have e0 : Str.empty.length = 0 := rfl
    have e1 : (Str.ofString "the log cannot be cut at block ").length = 31 := by decide +kernel
    refine ⟨_, rfl, _, rfl, ?_, _, rfl, .inr ⟨n, rfl, hn, _, rfl, ?_, ?_⟩⟩
    · rw [str_len_app, sizeLine_eq]; omega
    · rw [str_len_app, str_len_app, sizeLine_eq]; omega
    refine ⟨a, _, _, rfl, (by simp), T.eN.ox, ha, ?_⟩
    exact ⟨_, rfl, _, rfl, a, _, rfl, T.eN.ox, T.fC, ha, fun dx h1 h2 => k dx h1 h2⟩
theorem ok_stopped_init (T : Tx K mg) (F : FnP K "__init__" "Stopped.__init__" sStoppedI f fd) : FnOk P w K mg base (L2.CX P w) 1 f fd ["self"] (spExN (He.ga K "Stopped")) := by
  have sc := scStoppedI
  refine F.ok sc (fun vs H Q E h => ?_) (fun cdv A outer s H vs Q E hr h => ?_)
  · obtain ⟨a, rfl, _⟩ := h
    rfl
  · obtain ⟨a, rfl, ha, k⟩ := h
    refine ⟨_, PSs.nox (pss_one (ps_expr (pe_binit PySem.OEG.baseR rfl (T.fr "RuntimeError" (by decide +kernel)) (by decide +kernel) T.iR (pa_cons (pv 0) (pa_cons pe_str pa_nil))))), ?_⟩
    exact ⟨_, rfl, a, _, _, rfl, (by simp), T.eS.ox, ha, k⟩
end
end K51
end L2
set_option Elab.async false
set_option linter.all false
set_option maxRecDepth 100000
set_option maxHeartbeats 4000000
/-! KD4: the disk. -/
namespace L2
open PySem PySem.Spec PyProof.Rows
namespace K51
/-! ### an instance of Disk -/
def dkF (k sh lo : Addr) (w : Int) (l : V) : List (Str × V) := [("own_kept", .ref k), ("own_shown", .ref sh), ("own_loose", .ref lo), ("own_writes", .int w), ("own_left", l)]
section
variable {k sh lo a : Addr} {w z : Int} {l v : V}
theorem dk_kept : (dkF k sh lo w l).lookup ("own_kept" : Str) = some (.ref k) := by kernel_rfl
theorem dk_shown : (dkF k sh lo w l).lookup ("own_shown" : Str) = some (.ref sh) := by kernel_rfl
theorem dk_loose : (dkF k sh lo w l).lookup ("own_loose" : Str) = some (.ref lo) := by kernel_rfl
theorem dk_writes : (dkF k sh lo w l).lookup ("own_writes" : Str) = some (.int w) := by kernel_rfl
theorem dk_left : (dkF k sh lo w l).lookup ("own_left" : Str) = some l := by kernel_rfl
theorem dk_put_kept : putF "own_kept" (.ref a) (dkF k sh lo w l) = dkF a sh lo w l := by kernel_rfl
theorem dk_put_shown : putF "own_shown" (.ref a) (dkF k sh lo w l) = dkF k a lo w l := by kernel_rfl
theorem dk_put_loose : putF "own_loose" (.ref a) (dkF k sh lo w l) = dkF k sh a w l := by kernel_rfl
theorem dk_put_writes : putF "own_writes" (.int z) (dkF k sh lo w l) = dkF k sh lo z l := by kernel_rfl
theorem dk_put_left : putF "own_left" v (dkF k sh lo w l) = dkF k sh lo w v := by kernel_rfl
theorem dk_new : putF "own_left" l (putF "own_writes" (.int w) (putF "own_loose" (.ref lo) (putF "own_shown" (.ref sh) (putF "own_kept" (.ref k) [])))) = dkF k sh lo w l := by kernel_rfl
theorem dk_meth : ∀ m ∈ dM, (dkF k sh lo w l).lookup m = none := by
  have h : dM.map (fun m => ((dkF k sh lo w l).lookup m).isNone) = dM.map fun _ => true := by kernel_rfl
  intro m hm
  obtain ⟨i, hi, e⟩ := List.mem_iff_getElem.mp hm
  have h2 := congrArg (fun l => l[i]?) h
  simp only [List.getElem?_map, List.getElem?_eq_getElem hi, Option.map_some, e] at h2
  simpa using h2
theorem dk_len : (dkF k sh lo w l).length < 1000 := by show 5 < 1000; decide
end
/-- a block at a value -/
def Blk (H : Hp) (v : V) (ob : Option Pt) : Prop := Rec H v (encB ob)
abbrev Blks (H : Hp) : List V → Pl → Prop := Paired (Blk H)
/-- an entry of the loose writes -/
def Lse (H : Hp) (v : V) (e : Nat × Option Pt) : Prop := ∃ b, Rec H v [.int e.1, .ref b] ∧ H b = some (.tup (encB e.2))
abbrev Lses (H : Hp) : List V → List (Nat × Option Pt) → Prop := Paired (Lse H)
theorem Blks.kp {fp : List Addr} {H H' : Hp} (q : Kp fp H H') {vs : List V} {S : Pl} (h : Blks H vs S) : Blks H' vs S := Paired.mapP h fun _ _ z => Rec.kp q z
theorem Lses.kp {fp : List Addr} {H H' : Hp} (q : Kp fp H H') {vs : List V} {S : List (Nat × Option Pt)} (h : Lses H vs S) : Lses H' vs S := Paired.mapP h fun _ _ ⟨b, z1, z2⟩ => ⟨b, Rec.kp q z1, q.tups _ _ z2⟩
/-- the disk at d: its lists at k, sh, lo -/
structure DkAt (K : PySem.W.Frag) (H : Hp) (d k sh lo : Addr) (kept shown : Pl) (ls : List (Nat × Option Pt)) (left : V) : Prop where
  ins : ∃ dx w, H d = some (.ins (CD K) dx (dkF k sh lo w left))
  hk : ∃ kv, H k = some (.lst kv) ∧ Blks H kv kept
  hs : ∃ sv, H sh = some (.lst sv) ∧ Blks H sv shown
  hl : ∃ lv, H lo = some (.lst lv) ∧ Lses H lv ls
  n1 : k ≠ sh
  n2 : k ≠ lo
  n3 : sh ≠ lo
theorem DkAt.kp {K : PySem.W.Frag} {fp : List Addr} {H H' : Hp} {d k sh lo : Addr} {kept shown : Pl} {ls : List (Nat × Option Pt)} {left : V} (D : DkAt K H d k sh lo kept shown ls left) (q : Kp fp H H') (hd : d ∉ fp) (hk : k ∉ fp) (hs : sh ∉ fp) (hl : lo ∉ fp) : DkAt K H' d k sh lo kept shown ls left := by
  obtain ⟨⟨dx, w, h1⟩, ⟨kv, h2, h3⟩, ⟨sv, h4, h5⟩, ⟨lv, h6, h7⟩, n1, n2, n3⟩ := D
  exact ⟨⟨dx, w, q.keep _ _ h1 hd⟩, ⟨kv, q.keep _ _ h2 hk, Blks.kp q h3⟩, ⟨sv, q.keep _ _ h4 hs, Blks.kp q h5⟩, ⟨lv, q.keep _ _ h6 hl, Lses.kp q h7⟩, n1, n2, n3⟩
theorem DkAt.same {K : PySem.W.Frag} {H H' : Hp} {d k sh lo : Addr} {kept shown : Pl} {ls : List (Nat × Option Pt)} {left : V} (D : DkAt K H d k sh lo kept shown ls left) (s : Same H H') : DkAt K H' d k sh lo kept shown ls left :=
  D.kp (Kp.same (fp := []) s) (by simp) (by simp) (by simp) (by simp)
theorem ins_lst {H : Hp} {a b : Addr} {C dx : Addr} {fs : List (Str × V)} {xs : List V} (h1 : H a = some (.ins C dx fs)) (h2 : H b = some (.lst xs)) : a ≠ b := ne_of h1 h2 (by intro z; cases z)
section
variable {P : Program} {w : World} {K : PySem.W.Frag} {mg : Str → Option Value} {base : Heap} {f : Addr} {fd : FuncData}
abbrev mD (K : PySem.W.Frag) (m : Str) : Addr := He.ma K (CD K) m
/-! ### look, use -/
abbrev sLook : Stmt := dskS 1
def spLook (K : PySem.W.Frag) : Sp := fun vs H Q _ => ∃ (d : Addr) (pl : Nat) (dx k sh lo : Addr) (wr : Int) (l : V) (sv : List V), vs = [.ref d, .int pl] ∧ H d = some (.ins (CD K) dx (dkF k sh lo wr l)) ∧ H sh = some (.lst sv) ∧ pl < sv.length ∧ Q .non H
theorem scLook : FnScope ["self", "place"] ["self", "place"] (defScope sLook) := ⟨rfl, rfl, rfl, by decide +kernel, rfl, by decide +kernel, by decide +kernel⟩
theorem ok_look (T : Tx K mg) (F : FnP K "look" "Disk.look" sLook f fd) : FnOk P w K mg base (L2.CX P w) 1 f fd ["self", "place"] (spLook K) := by
  have sc := scLook
  refine F.ok sc (fun vs H Q E h => ?_) (fun cdv A outer s H vs Q E hr h => ?_)
  · obtain ⟨d, pl, _, _, _, _, _, _, _, rfl, _⟩ := h
    rfl
  · obtain ⟨d, pl, dx, k, sh, lo, wr, l, sv, rfl, hd, hs, hlt, q⟩ := h
    refine ⟨_, PSs.nox (pss_one (ps_if (pt_not (pt_chain op_le op_lt pe_int (pv 1) (pe_callB call_len (by rfl) (T.fr "len" (by decide +kernel)) (by decide +kernel) (pa_cons (pe_fld (pv 0) rfl) pa_nil))))
      (pss_one ps_never) pss_nil)), ?_⟩
    refine ⟨_, rfl, _, _, rfl, rfl, _, rfl, ifT (decide_eq_true (by omega)) ?_⟩
    refine ⟨_, rfl, d, CD K, dx, _, _, rfl, hd, T.clD, T.naD _ (by decide +kernel), dk_shown, _, _, rfl, .inl ⟨_, SqL.of hs, rfl⟩, _, _, rfl, rfl, _, rfl, iteNS (by omega) ?_⟩
    exact q
abbrev sUse : Stmt := dskS 2
def spUse (K : PySem.W.Frag) : Sp := fun vs H Q E => ∃ (d dx k sh lo : Addr) (wr : Int) (l : V), vs = [.ref d] ∧ H d = some (.ins (CD K) dx (dkF k sh lo wr l)) ∧
  ((l = .non ∧ Q .non H) ∨ (∃ n : Nat, l = .int ((n : Int) + 1) ∧ Q .non (upd H d (.ins (CD K) dx (dkF k sh lo wr (.int n))))) ∨ (l = .int 0 ∧ E (.ref (He.ga K "Stopped")) none H))
theorem scUse : FnScope ["self"] ["self"] (defScope sUse) := ⟨rfl, rfl, rfl, by decide +kernel, rfl, by decide +kernel, by decide +kernel⟩
theorem ok_use (T : Tx K mg) (kI : Kn P w K mg base (L2.CX P w) 1 (He.ma K (He.ga K "Stopped") "__init__") ["self"] (spExN (He.ga K "Stopped"))) (F : FnP K "use" "Disk.use" sUse f fd) : FnOk P w K mg base (L2.CX P w) 3 f fd ["self"] (spUse K) := by
  have sc := scUse
  obtain ⟨_, G_I, b_I, k_I⟩ := kI
  refine F.ok sc (fun vs H Q E h => ?_) (fun cdv A outer s H vs Q E hr h => ?_)
  · obtain ⟨d, _, _, _, _, _, _, rfl, _⟩ := h
    rfl
  · obtain ⟨d, dx, k, sh, lo, wr, l, rfl, hd, q⟩ := h
    refine ⟨_, (pss_cons (ps_if (pt_cmpR op_eq (pe_fld (pv 0) rfl) pe_int (nomark _))
  (pss_one (ps_raise (W := fun cls d _ H => E cls d H) rfl (takes_of rfl rfl rfl rfl) (pmk_nofld PySem.OEG.baseR T.eS.ox T.eS.iC T.eS.tI G_I (hr.mono (by decide)) b_I passL (by rfl) (T.gl "Stopped" (by decide +kernel)))))
  pss_nil)
  (pss_one (ps_if (pt_cmp (pc_notN (pe_fld (pv 0) rfl)))
  (pss_one (ps_fldaug (pv 0) pe_int in_sub))
  pss_nil))), ?_⟩
    rcases q with ⟨rfl, q⟩ | ⟨n, rfl, q⟩ | ⟨rfl, q⟩
    · refine ⟨_, rfl, d, CD K, dx, _, _, rfl, hd, T.clD, T.naD _ (by decide +kernel), dk_left, rfl, _, rfl, ifF (decide_eq_false (by intro z; cases z)) ?_⟩
      exact ⟨_, rfl, d, CD K, dx, _, _, rfl, hd, T.clD, T.naD _ (by decide +kernel), dk_left, _, rfl, iteNS rfl q⟩
    · refine ⟨_, rfl, d, CD K, dx, _, _, rfl, hd, T.clD, T.naD _ (by decide +kernel), dk_left, rfl, _, rfl, ifF (decide_eq_false (by intro z; have := V.int.inj z; omega)) ?_⟩
      refine ⟨_, rfl, d, CD K, dx, _, _, rfl, hd, T.clD, T.naD _ (by decide +kernel), dk_left, _, rfl, ifT (by simp) ?_⟩
      refine ⟨_, rfl, d, CD K, dx, _, _, rfl, hd, T.clD, T.naD _ (by decide +kernel), dk_left, _, _, rfl, rfl, dx, _, hd, dk_len, ?_⟩
      rw [dk_put_left, show (n : Int) + 1 - 1 = n by omega]
      exact q
    · refine ⟨_, rfl, d, CD K, dx, _, _, rfl, hd, T.clD, T.naD _ (by decide +kernel), dk_left, rfl, _, rfl, ifT (decide_eq_true rfl) ?_⟩
      intro a ha
      exact ⟨a, rfl, upd_same, rfl, rfl, q⟩
/-! ### read -/
abbrev sRead : Stmt := dskS 5
def spRead (K : PySem.W.Frag) : Sp := fun vs H Q _ => ∃ (d : Addr) (pl : Nat) (dx k sh lo : Addr) (wr : Int) (l : V) (sv : List V) (v : V), vs = [.ref d, .int pl] ∧ H d = some (.ins (CD K) dx (dkF k sh lo wr l)) ∧ H sh = some (.lst sv) ∧ sv[pl]? = some v ∧ Q v H
theorem scRead : FnScope ["self", "place"] ["self", "place"] (defScope sRead) := ⟨rfl, rfl, rfl, by decide +kernel, rfl, by decide +kernel, by decide +kernel⟩
theorem ok_read (T : Tx K mg) (kL : Kn P w K mg base (L2.CX P w) 1 (mD K "look") ["self", "place"] (spLook K)) (F : FnP K "read" "Disk.read" sRead f fd) : FnOk P w K mg base (L2.CX P w) 2 f fd ["self", "place"] (spRead K) := by
  have sc := scRead
  obtain ⟨_, G_D_look, b_D_look, _⟩ := kL
  refine F.ok sc (fun vs H Q E h => ?_) (fun cdv A outer s H vs Q E hr h => ?_)
  · obtain ⟨d, _, _, _, _, _, _, _, _, _, rfl, _⟩ := h
    rfl
  · obtain ⟨d, pl, dx, k, sh, lo, wr, l, sv, v, rfl, hd, hs, hv, q⟩ := h
    refine ⟨_, PSs.nox (pss_cons (ps_expr (pe_meth (pv 0) T.clD (T.meD "look" (by decide +kernel)) G_D_look (hr.mono (by decide)) b_D_look .nil passL (pa_cons (pv 1) pa_nil)))
  (pss_one (ps_ret (pe_ix ix_list (pe_fld (pv 0) rfl) (pv 1) (fun _ _ => rfl))))), ?_⟩
    refine ⟨_, rfl, d, dx, _, rfl, hd, dk_meth _ (by decide +kernel), _, rfl, d, pl, dx, k, sh, lo, wr, l, sv, rfl, hd, hs, (List.getElem?_eq_some_iff.mp hv).1, ?_⟩
    exact ⟨_, rfl, d, CD K, dx, _, _, rfl, hd, T.clD, T.naD _ (by decide +kernel), dk_shown, _, rfl, _, _, _, _, rfl, rfl, SqL.of hs, atI_nat hv, q⟩
end
end K51
end L2
set_option Elab.async false
set_option linter.all false
set_option maxRecDepth 100000
set_option maxHeartbeats 4000000
/-! KD5: the disk's writes. -/
namespace L2
open PySem PySem.Spec PyProof.Rows
namespace K51
theorem at_new {H : Hp} {p b : Addr} {o x : HO} (h : H p = none) (e : H b = some o) : upd H p x b = some o := by rw [upd_ne (ne_of_none e h)]; exact e
theorem at_put {H : Hp} {p b : Addr} {o x : HO} (h : b ≠ p) (e : H b = some o) : upd H p x b = some o := by rw [upd_ne h]; exact e
theorem no_new {H : Hp} {p b : Addr} {x : HO} (h : upd H p x b = none) : H b = none ∧ b ≠ p := by
  have hb : b ≠ p := fun z => by rw [z, upd_same] at h; cases h
  rw [upd_ne hb] at h
  exact ⟨h, hb⟩
theorem ixN_nat {n j : Nat} (h : j < n) : ixN n (j : Int) = some j := by
  unfold ixN
  rw [if_pos (by omega), if_pos (by omega)]; simp
section
variable {P : Program} {w : World} {K : PySem.W.Frag} {mg : Str → Option Value} {base : Heap} {f : Addr} {fd : FuncData}
/-- what use leaves of the count -/
def Dec (l l' : V) : Prop := (l = .non ∧ l' = .non) ∨ ∃ n : Nat, l = .int ((n : Int) + 1) ∧ l' = .int n
theorem use_by {H : Hp} {d dx k sh lo : Addr} {wr : Int} {l l' : V} {Q : VK} {E : XK} (hd : H d = some (.ins (CD K) dx (dkF k sh lo wr l))) (hl : Dec l l')
    (q : ∀ H1, H1 d = some (.ins (CD K) dx (dkF k sh lo wr l')) → Kp [d] H H1 → (∀ b, b ≠ d → H1 b = H b) → Q .non H1) : spUse K [.ref d] H Q E := by
  refine ⟨d, dx, k, sh, lo, wr, l, rfl, hd, ?_⟩
  rcases hl with ⟨rfl, rfl⟩ | ⟨n, rfl, rfl⟩
  · exact .inl ⟨rfl, q H hd (Kp.refl H) fun _ _ => rfl⟩
  · exact .inr (.inl ⟨n, rfl, q _ upd_same (Kp.put hd (fun _ z => by cases z) (by simp)) fun b hb => upd_ne hb⟩)
abbrev sWrite : Stmt := dskS 6
def spWrite (K : PySem.W.Frag) : Sp := fun vs H Q _ => ∃ (d k sh lo a : Addr) (kept shown : Pl) (ls : List (Nat × Option Pt)) (l l' : V) (pl : Nat) (ob : Option Pt), vs = [.ref d, .int pl, .ref a] ∧ DkAt K H d k sh lo kept shown ls l ∧ H a = some (.lst (encB ob)) ∧ a ≠ sh ∧ a ≠ lo ∧
  pl < shown.length ∧ ls.length ≤ 1000 ∧ Dec l l' ∧ ∀ H', DkAt K H' d k sh lo kept (shown.set pl ob) (ls ++ [(pl, ob)]) l' → Kp [d, sh, lo] H H' → Q .non H'
theorem scWrite : FnScope ["self", "place", "block"] ["self", "place", "block"] (defScope sWrite) := ⟨rfl, rfl, rfl, by decide +kernel, rfl, by decide +kernel, by decide +kernel⟩
theorem ok_write (T : Tx K mg) (kL : Kn P w K mg base (L2.CX P w) 1 (mD K "look") ["self", "place"] (spLook K)) (kU : Kn P w K mg base (L2.CX P w) 3 (mD K "use") ["self"] (spUse K)) (F : FnP K "write" "Disk.write" sWrite f fd) : FnOk P w K mg base (L2.CX P w) 4 f fd ["self", "place", "block"] (spWrite K) := by
  have sc := scWrite
  obtain ⟨_, G_D_look, b_D_look, _⟩ := kL
  obtain ⟨_, G_D_use, b_D_use, _⟩ := kU
  refine F.ok sc (fun vs H Q E h => ?_) (fun cdv A outer s H vs Q E hr h => ?_)
  · obtain ⟨d, k, sh, lo, a, kept, shown, ls, l, l', pl, ob, rfl, _⟩ := h
    rfl
  · obtain ⟨d, k, sh, lo, a, kept, shown, ls, l, l', pl, ob, rfl, ⟨⟨dx, wr, hd⟩, ⟨kv, hk, hkB⟩, ⟨sv, hs, hsB⟩, ⟨lv, hl, hlB⟩, n1, n2, n3⟩, ha, nas, nal, hpl, hls, hD, q⟩ := h
    refine ⟨_, PSs.nox (pss_cons (ps_expr (pe_meth (pv 0) T.clD (T.meD "look" (by decide +kernel)) G_D_look (hr.mono (by decide)) b_D_look .nil passL (pa_cons (pv 1) pa_nil)))
  (pss_cons (ps_expr (pe_meth0 (pv 0) T.clD (T.meD "use" (by decide +kernel)) G_D_use (hr.mono (by decide)) b_D_use .nil passL))
  (pss_cons (ps_asg (pe_callTy call_tuple_of (by rfl) (T.fr "tuple" (by decide +kernel)) (by decide +kernel) (pa_cons (pv 2) pa_nil)) (pg_sub (pe_fld (pv 0) rfl) (pv 1) set_list))
  (pss_cons (ps_expr (pe_bm PySem.F.plainAttrs_list PySem.F.slot_list_append PySem.F.type_list_append mt_append (pe_fld (pv 0) rfl) (pa_cons (pe_tup (pa_cons (pv 1) (pa_cons (pe_callTy call_tuple_of (by rfl) (T.fr "tuple" (by decide +kernel)) (by decide +kernel) (pa_cons (pv 2) pa_nil)) pa_nil))) pa_nil)))
  (pss_one (ps_fldaug (pv 0) pe_int in_add)))))), ?_⟩
    have hsl : sv.length = shown.length := pr_len hsB
    have hll : lv.length = ls.length := pr_len hlB
    refine ⟨_, rfl, d, dx, _, rfl, hd, dk_meth _ (by decide +kernel), _, rfl, d, pl, dx, k, sh, lo, wr, l, sv, rfl, hd, hs, (by omega), ?_⟩
    refine ⟨_, rfl, d, dx, _, rfl, hd, dk_meth _ (by decide +kernel), ?_⟩
    unfold tNil
    refine use_by hd hD fun H1 hd1 k1 e1 => ?_
    have nds := ins_lst hd hs
    have ndl := ins_lst hd hl
    have nda := ins_lst hd ha
    have ndk := ins_lst hd hk
    have ha1 : H1 a = some (.lst (encB ob)) := (e1 a (Ne.symm nda)).trans ha
    have hs1 : H1 sh = some (.lst sv) := (e1 sh (Ne.symm nds)).trans hs
    have hl1 : H1 lo = some (.lst lv) := (e1 lo (Ne.symm ndl)).trans hl
    have hk1 : H1 k = some (.lst kv) := (e1 k (Ne.symm ndk)).trans hk
    refine ⟨_, rfl, a, _, rfl, .inl ⟨SqL.of ha1, fun t ht => ?_⟩⟩
    have hs2 := at_new (x := .tup (encB ob)) ht hs1
    refine ⟨_, rfl, d, CD K, dx, _, _, rfl, at_new ht hd1, T.clD, T.naD _ (by decide +kernel), dk_shown, _, rfl, sh, sv, pl, pl, rfl, rfl, hs2, ixN_nat (by omega), ?_⟩
    -- the second copy, the entry
    have hd3 := at_put (x := .lst (sv.set pl (.ref t))) nds (at_new (x := .tup (encB ob)) ht hd1)
    have hl3 := at_put (x := .lst (sv.set pl (.ref t))) (Ne.symm n3) (at_new (x := .tup (encB ob)) ht hl1)
    have ha3 := at_put (x := .lst (sv.set pl (.ref t))) nas (at_new (x := .tup (encB ob)) ht ha1)
    have hk3 := at_put (x := .lst (sv.set pl (.ref t))) n1 (at_new (x := .tup (encB ob)) ht hk1)
    have k3 : Kp [d, sh, lo] H (upd (upd H1 t (.tup (encB ob))) sh (.lst (sv.set pl (.ref t)))) :=
      ((k1.mono (by simp)).trans (Kp.new ht)).trans (Kp.put hs2 (fun _ z => by cases z) (by simp))
    have hs3 : upd (upd H1 t (.tup (encB ob))) sh (.lst (sv.set pl (.ref t))) sh = some (.lst (sv.set pl (.ref t))) := upd_same
    have ht3 : upd (upd H1 t (.tup (encB ob))) sh (.lst (sv.set pl (.ref t))) t = some (.tup (encB ob)) := at_put (fun z => by rw [z, hs1] at ht; cases ht) upd_same
    refine ⟨_, rfl, d, CD K, dx, _, _, rfl, hd3, T.clD, T.naD _ (by decide +kernel), dk_loose, tyL hl3, _, rfl, _, rfl, a, _, rfl, .inl ⟨SqL.of ha3, fun t2 ht2 => ⟨(by show 2 ≤ sizeLine; decide), fun t3 ht3' => ?_⟩⟩⟩
    obtain ⟨ht3n, n32⟩ := no_new ht3'
    have hl5 := at_new (x := .tup [.int (pl : Int), .ref t2]) ht3' (at_new (x := .tup (encB ob)) ht2 hl3)
    refine ⟨_, _, _, rfl, rfl, hl5, (by rw [sizeLine_eq]; omega), ?_⟩
    have hd5 := at_new (x := .tup [.int (pl : Int), .ref t2]) ht3' (at_new (x := .tup (encB ob)) ht2 hd3)
    have hd6 := at_put (x := .lst (lv ++ [.ref t3])) ndl hd5
    refine ⟨_, rfl, d, CD K, dx, _, _, rfl, hd6, T.clD, T.naD _ (by decide +kernel), dk_writes, _, _, rfl, rfl, dx, _, hd6, dk_len, ?_⟩
    rw [dk_put_writes]
    generalize hG : upd (upd (upd (upd (upd H1 t (.tup (encB ob))) sh (.lst (sv.set pl (.ref t)))) t2 (.tup (encB ob))) t3 (.tup [.int (pl : Int), .ref t2])) lo (.lst (lv ++ [.ref t3])) = H6 at hd6 ⊢
    have k36 : Kp [lo] (upd (upd H1 t (.tup (encB ob))) sh (.lst (sv.set pl (.ref t)))) H6 := by
      rw [← hG]
      exact ((Kp.new ht2).trans (Kp.new ht3')).trans (Kp.put hl5 (fun _ z => by cases z) (by simp))
    have k67 : Kp [d] H6 (upd H6 d (.ins (CD K) dx (dkF k sh lo (wr + 1) l'))) := Kp.put hd6 (fun _ z => by cases z) (by simp)
    have kall := (k3.trans (k36.mono (by simp))).trans (k67.mono (fp' := [d, sh, lo]) (by simp))
    have k37 : Kp [lo, d] (upd (upd H1 t (.tup (encB ob))) sh (.lst (sv.set pl (.ref t)))) (upd H6 d (.ins (CD K) dx (dkF k sh lo (wr + 1) l'))) := (k36.mono (by simp)).trans (k67.mono (by simp))
    refine q _ ⟨⟨dx, wr + 1, upd_same⟩, ⟨kv, k37.keep _ _ hk3 (by simp [n2, Ne.symm ndk]), Blks.kp kall hkB⟩, ⟨_, k37.keep _ _ hs3 (by simp [n3, Ne.symm nds]), pr_set (F := Blk _) ⟨t, rfl, k37.tups _ _ ht3⟩ pl (Blks.kp kall hsB)⟩, ⟨_, ?_, pr_append (Lses.kp kall hlB) (pr_one ⟨t2, ⟨t3, rfl, ?_⟩, ?_⟩)⟩, n1, n2, n3⟩ kall
    · exact at_put (Ne.symm ndl) (by rw [← hG]; exact upd_same)
    · have : H6 t3 = some (.tup [.int (pl : Int), .ref t2]) := by
        rw [← hG]
        exact at_put (fun z => by rw [z] at ht3'; rw [at_new ht2 hl3] at ht3'; cases ht3') upd_same
      exact k67.tups _ _ this
    · have : H6 t2 = some (.tup (encB ob)) := by
        rw [← hG]
        exact at_put (fun z => by rw [z, hl3] at ht2; cases ht2) (at_new ht3' upd_same)
      exact k67.tups _ _ this
/-! ### barrier -/
abbrev sBarrier : Stmt := dskS 7
def spBarrier (K : PySem.W.Frag) : Sp := fun vs H Q E => ∃ (d k sh lo : Addr) (kept shown : Pl) (ls : List (Nat × Option Pt)) (l : V), vs = [.ref d] ∧ DkAt K H d k sh lo kept shown ls l ∧
  ((∃ l', Dec l l' ∧ ∀ H' k' lo', H k' = none → H lo' = none → DkAt K H' d k' sh lo' shown shown [] l' → Kp [d] H H' → Q .non H') ∨ (l = .int 0 ∧ E (.ref (He.ga K "Stopped")) none H))
theorem scBarrier : FnScope ["self"] ["self"] (defScope sBarrier) := ⟨rfl, rfl, rfl, by decide +kernel, rfl, by decide +kernel, by decide +kernel⟩
theorem ok_barrier (T : Tx K mg) (kU : Kn P w K mg base (L2.CX P w) 3 (mD K "use") ["self"] (spUse K)) (F : FnP K "barrier" "Disk.barrier" sBarrier f fd) : FnOk P w K mg base (L2.CX P w) 4 f fd ["self"] (spBarrier K) := by
  have sc := scBarrier
  obtain ⟨_, G_D_use, b_D_use, _⟩ := kU
  refine F.ok sc (fun vs H Q E h => ?_) (fun cdv A outer s H vs Q E hr h => ?_)
  · obtain ⟨d, _, _, _, _, _, _, _, rfl, _⟩ := h
    rfl
  · obtain ⟨d, k, sh, lo, kept, shown, ls, l, rfl, ⟨⟨dx, wr, hd⟩, ⟨kv, hk, hkB⟩, ⟨sv, hs, hsB⟩, ⟨lv, hl, hlB⟩, n1, n2, n3⟩, q⟩ := h
    refine ⟨_, (pss_cons (ps_expr (pe_meth0 (E := E) (pv 0) T.clD (T.meD "use" (by decide +kernel)) G_D_use (hr.mono (by decide)) b_D_use .nil (passes_call (W := fun cls d _ H => E cls d H) (takes_of rfl rfl rfl rfl) fun _ _ _ _ h => h)))
  (pss_cons (ps_fld (pv 0) (pe_callTy call_list_of (by rfl) (T.fr "list" (by decide +kernel)) (by decide +kernel) (pa_cons (pe_fld (pv 0) rfl) pa_nil)) rfl)
  (pss_one (ps_fld (pv 0) (pe_lst pa_nil) rfl)))), ?_⟩
    refine ⟨_, rfl, d, dx, _, rfl, hd, dk_meth _ (by decide +kernel), ?_⟩
    rcases q with ⟨l', hD, q⟩ | ⟨rfl, q⟩
    · unfold tNil
      refine use_by hd hD fun H1 hd1 k1 e1 => ?_
      have nds := ins_lst hd hs
      have hs1 : H1 sh = some (.lst sv) := (e1 sh (Ne.symm nds)).trans hs
      refine ⟨_, rfl, d, CD K, dx, _, _, rfl, hd1, T.clD, T.naD _ (by decide +kernel), dk_shown, sh, _, rfl, .inl (SqL.of hs1), fun k' hk' => ?_⟩
      have hd2 := at_new (x := .lst sv) hk' hd1
      refine ⟨_, rfl, d, CD K, dx, _, rfl, hd2, T.clD, T.naD _ (by decide +kernel), dk_len, ?_⟩
      rw [dk_put_kept]
      refine ⟨Nat.zero_le _, fun lo' hlo' => ?_⟩
      obtain ⟨hlo2, nlod⟩ := no_new hlo'
      obtain ⟨hlo1, nlok⟩ := no_new hlo2
      have hd3 := at_new (x := .lst []) hlo' (show upd (upd H1 k' (.lst sv)) d (.ins (CD K) dx (dkF k' sh lo wr l')) d = _ from upd_same)
      refine ⟨_, rfl, d, CD K, dx, _, rfl, hd3, T.clD, T.naD _ (by decide +kernel), dk_len, ?_⟩
      rw [dk_put_loose]
      have k2 : Kp [d] H1 (upd (upd (upd (upd H1 k' (.lst sv)) d (.ins (CD K) dx (dkF k' sh lo wr l'))) lo' (.lst [])) d (.ins (CD K) dx (dkF k' sh lo' wr l'))) :=
        (((Kp.new hk').trans (Kp.put hd2 (fun _ z => by cases z) (by simp))).trans (Kp.new hlo')).trans (Kp.put hd3 (fun _ z => by cases z) (by simp))
      have nkd : k' ≠ d := fun z => by rw [z, hd1] at hk'; cases hk'
      have nks : k' ≠ sh := fun z => by rw [z, hs1] at hk'; cases hk'
      have nls : lo' ≠ sh := fun z => by rw [z, hs1] at hlo1; cases hlo1
      have kall := k1.trans k2
      have f1 : H k' = none := by rw [e1 k' nkd] at hk'; exact hk'
      have f2 : H lo' = none := by rw [e1 lo' nlod] at hlo1; exact hlo1
      refine q _ k' lo' f1 f2 ⟨⟨dx, wr, upd_same⟩, ⟨sv, at_put nkd (at_put (Ne.symm nlok) (at_put nkd upd_same)), Blks.kp kall hsB⟩, ⟨sv, k2.keep _ _ hs1 (by simpa using Ne.symm nds), Blks.kp kall hsB⟩, ⟨[], at_put nlod upd_same, .nil⟩, nks, Ne.symm nlok, Ne.symm nls⟩ kall
    · exact ⟨d, dx, k, sh, lo, wr, _, rfl, hd, .inr (.inr ⟨rfl, q⟩)⟩
end
end K51
end L2
set_option Elab.async false
set_option linter.all false
set_option maxRecDepth 100000
set_option maxHeartbeats 4000000
/-! KD6: the disk: loose, fail_after, crash, a new one. -/
namespace L2
open PySem PySem.Spec PyProof.Rows
namespace K51
/-- ints that are naturals -/
def natsV (ks : List Nat) : List V := ks.map fun i : Nat => V.int (i : Int)
theorem natsV_len (ks : List Nat) : (natsV ks).length = ks.length := by simp [natsV]
theorem natsV_get {ks : List Nat} {i : Nat} {x : V} (hx : (natsV ks)[i]? = some x) : ∃ j : Nat, ks[i]? = some j ∧ x = .int j := by
  unfold natsV at hx
  rw [List.getElem?_map] at hx
  cases e : ks[i]? with
  | none => rw [e] at hx; cases hx
  | some j => rw [e] at hx; exact ⟨j, rfl, (Option.some.inj hx).symm⟩
/-- some of the loose writes kept -/
def crW (ls : List (Nat × Option Pt)) (S : Pl) (i : Nat) : Pl := match ls[i]? with
  | some e => S.set e.1 e.2
  | none => S
def cr (kept : Pl) (ls : List (Nat × Option Pt)) (ks : List Nat) : Pl := ks.foldl (crW ls) kept
theorem cr_len (ls : List (Nat × Option Pt)) : ∀ (ks : List Nat) (S : Pl), (cr S ls ks).length = S.length
  | [], _ => rfl
  | i :: ks, S => by
    show (cr (crW ls S i) ls ks).length = _
    rw [cr_len ls ks]
    unfold crW
    cases ls[i]? with
    | none => rfl
    | some e => simp
theorem cr_snoc (kept : Pl) (ls : List (Nat × Option Pt)) (ks : List Nat) (i : Nat) : cr kept ls (ks ++ [i]) = crW ls (cr kept ls ks) i := by
  unfold cr
  rw [List.foldl_append]
  rfl
section
variable {P : Program} {w : World} {K : PySem.W.Frag} {mg : Str → Option Value} {base : Heap} {f : Addr} {fd : FuncData}
abbrev sLoose : Stmt := dskS 8
def spLoose (K : PySem.W.Frag) : Sp := fun vs H Q _ => ∃ (d k sh lo : Addr) (kept shown : Pl) (ls : List (Nat × Option Pt)) (l : V), vs = [.ref d] ∧ DkAt K H d k sh lo kept shown ls l ∧ ∀ H' p lv, H p = none → H' p = some (.lst lv) → lv.length = ls.length → Same H H' → Q (.ref p) H'
theorem scLoose : FnScope ["self"] ["self"] (defScope sLoose) := ⟨rfl, rfl, rfl, by decide +kernel, rfl, by decide +kernel, by decide +kernel⟩
theorem ok_loose (T : Tx K mg) (F : FnP K "loose" "Disk.loose" sLoose f fd) : FnOk P w K mg base (L2.CX P w) 1 f fd ["self"] (spLoose K) := by
  have sc := scLoose
  refine F.ok sc (fun vs H Q E h => ?_) (fun cdv A outer s H vs Q E hr h => ?_)
  · obtain ⟨d, _, _, _, _, _, _, _, rfl, _⟩ := h
    rfl
  · obtain ⟨d, k, sh, lo, kept, shown, ls, l, rfl, ⟨⟨dx, wr, hd⟩, _, _, ⟨lv, hl, hlB⟩, n1, n2, n3⟩, q⟩ := h
    refine ⟨_, PSs.nox (pss_one (ps_ret (pe_callTy call_list_of (by rfl) (T.fr "list" (by decide +kernel)) (by decide +kernel) (pa_cons (pe_fld (pv 0) rfl) pa_nil)))), ?_⟩
    exact ⟨_, rfl, d, CD K, dx, _, _, rfl, hd, T.clD, T.naD _ (by decide +kernel), dk_loose, lo, _, rfl, .inl (SqL.of hl), fun p hp => q _ p lv hp upd_same (pr_len hlB) (sameNew hp)⟩
abbrev sFail : Stmt := dskS 9
def spFail (K : PySem.W.Frag) : Sp := fun vs H Q _ => ∃ (d k sh lo : Addr) (kept shown : Pl) (ls : List (Nat × Option Pt)) (l : V) (n : Int), vs = [.ref d, .int n] ∧ DkAt K H d k sh lo kept shown ls l ∧ ∀ H', DkAt K H' d k sh lo kept shown ls (.int n) → Kp [d] H H' → Q .non H'
theorem scFail : FnScope ["self", "many"] ["self", "many"] (defScope sFail) := ⟨rfl, rfl, rfl, by decide +kernel, rfl, by decide +kernel, by decide +kernel⟩
theorem DkAt.fields {H : Hp} {d k sh lo : Addr} {kept shown : Pl} {ls : List (Nat × Option Pt)} {l l' : V} {dx : Addr} {wr : Int} (D : DkAt K H d k sh lo kept shown ls l) (hd : H d = some (.ins (CD K) dx (dkF k sh lo wr l))) : DkAt K (upd H d (.ins (CD K) dx (dkF k sh lo wr l'))) d k sh lo kept shown ls l' := by
  have kp : Kp [d] H (upd H d (.ins (CD K) dx (dkF k sh lo wr l'))) := Kp.put hd (fun _ z => by cases z) (by simp)
  obtain ⟨_, ⟨kv, h2, h3⟩, ⟨sv, h4, h5⟩, ⟨lv, h6, h7⟩, n1, n2, n3⟩ := D
  exact ⟨⟨dx, wr, upd_same⟩, ⟨kv, at_put (Ne.symm (ins_lst hd h2)) h2, Blks.kp kp h3⟩, ⟨sv, at_put (Ne.symm (ins_lst hd h4)) h4, Blks.kp kp h5⟩, ⟨lv, at_put (Ne.symm (ins_lst hd h6)) h6, Lses.kp kp h7⟩, n1, n2, n3⟩
theorem ok_fail (T : Tx K mg) (F : FnP K "fail_after" "Disk.fail_after" sFail f fd) : FnOk P w K mg base (L2.CX P w) 1 f fd ["self", "many"] (spFail K) := by
  have sc := scFail
  refine F.ok sc (fun vs H Q E h => ?_) (fun cdv A outer s H vs Q E hr h => ?_)
  · obtain ⟨d, _, _, _, _, _, _, _, _, rfl, _⟩ := h
    rfl
  · obtain ⟨d, k, sh, lo, kept, shown, ls, l, n, rfl, D, q⟩ := h
    obtain ⟨dx, wr, hd⟩ := D.ins
    refine ⟨_, PSs.nox (pss_one (ps_fld (pv 0) (pv 1) rfl)), ?_⟩
    refine ⟨_, rfl, _, rfl, d, CD K, dx, _, rfl, hd, T.clD, T.naD _ (by decide +kernel), dk_len, ?_⟩
    rw [dk_put_left]
    exact q _ (D.fields hd) (Kp.put hd (fun _ z => by cases z) (by simp))
abbrev sCrash : Stmt := dskS 10
def spCrash (K : PySem.W.Frag) : Sp := fun vs H Q _ => ∃ (d k sh lo c : Addr) (kept shown : Pl) (ls : List (Nat × Option Pt)) (l : V) (ks : List Nat), vs = [.ref d, .ref c] ∧ DkAt K H d k sh lo kept shown ls l ∧ H c = some (.lst (natsV ks)) ∧ c ≠ k ∧
  (∀ i ∈ ks, i < ls.length) ∧ (∀ e ∈ ls, e.1 < kept.length) ∧ ∀ H' sh' lo', H sh' = none → H lo' = none → DkAt K H' d k sh' lo' (cr kept ls ks) (cr kept ls ks) [] .non → Kp [d, k] H H' → Q .non H'
theorem scCrash : FnScope ["self", "kept", "index", "place", "block"] ["self", "kept"] (defScope sCrash) := ⟨rfl, rfl, rfl, by decide +kernel, rfl, by decide +kernel, by decide +kernel⟩
theorem ok_crash (T : Tx K mg) (F : FnP K "crash" "Disk.crash" sCrash f fd) : FnOk P w K mg base (L2.CX P w) 1 f fd ["self", "kept"] (spCrash K) := by
  have sc := scCrash
  refine F.ok sc (fun vs H Q E h => ?_) (fun cdv A outer s H vs Q E hr h => ?_)
  · obtain ⟨d, _, _, _, _, _, _, _, _, _, rfl, _⟩ := h
    rfl
  · obtain ⟨d, k, sh, lo, c, kept, shown, ls, l, ks, rfl, ⟨⟨dx, wr, hd⟩, ⟨kv, hk, hkB⟩, ⟨sv, hs, hsB⟩, ⟨lv, hl, hlB⟩, n1, n2, n3⟩, hc, nck, hks, hls, q⟩ := h
    refine ⟨_, PSs.nox (pss_cons (ps_for PassesOwn.never rfl (pi_list (pv 1)) (pg_name (i := 2) sc.nd rfl (Or.inl rfl))
  (pss_one (ps_if (pt_not (pt_chain op_le op_lt pe_int (pv 2) (pe_callB call_len (by rfl) (T.fr "len" (by decide +kernel)) (by decide +kernel) (pa_cons (pe_fld (pv 0) rfl) pa_nil))))
  (pss_one ps_never)
  pss_nil)))
  (pss_cons (ps_for PassesOwn.never rfl (pi_list (pv 1)) (pg_name (i := 2) sc.nd rfl (Or.inl rfl))
  (pss_cons (ps_asg (pe_ix ix_list (pe_fld (pv 0) rfl) (pv 2) (fun _ _ => rfl)) (pg_tup rfl (pgs_cons (pg_name (i := 3) sc.nd rfl (Or.inl rfl)) (pgs_cons (pg_name (i := 4) sc.nd rfl (Or.inl rfl)) pgs_nil))))
  (pss_one (ps_asg (pv 4) (pg_sub (pe_fld (pv 0) rfl) (pv 3) set_list)))))
  (pss_cons (ps_fld (pv 0) (pe_callTy call_list_of (by rfl) (T.fr "list" (by decide +kernel)) (by decide +kernel) (pa_cons (pe_fld (pv 0) rfl) pa_nil)) rfl)
  (pss_cons (ps_fld (pv 0) (pe_lst pa_nil) rfl)
  (pss_one (ps_fld (pv 0) pe_non rfl)))))), ?_⟩
    have hlen : lv.length = ls.length := pr_len hlB
    have ndk := ins_lst hd hk
    have ndl := ins_lst hd hl
    refine ⟨_, rfl, c, rfl, ⟨_, SqL.of hc⟩, for_list (K := K) (a := c) (xs := natsV ks) (fun i σ H' => H' = H ∧ ∃ v : Option V, σ = [some (.ref d), some (.ref c), v, none, none]) ⟨rfl, none, rfl⟩ (fun i σ H' _ z => by rw [z.1]; exact SqL.of hc) ?_ ?_⟩
    · rintro i x σ H' hx ⟨rfl, v, rfl⟩
      obtain ⟨j, hj, rfl⟩ := natsV_get hx
      have hjl := hks j (List.mem_of_getElem? hj)
      refine ⟨_, rfl, _, _, rfl, rfl, _, rfl, ifT (decide_eq_true (by omega)) ?_⟩
      exact ⟨_, rfl, d, CD K, dx, _, _, rfl, hd, T.clD, T.naD _ (by decide +kernel), dk_loose, _, _, rfl, .inl ⟨_, SqL.of hl, rfl⟩, _, _, rfl, rfl, _, rfl, iteNS (by omega) ⟨rfl, some (.int j), rfl⟩⟩
    · rintro σ H' ⟨rfl, v, rfl⟩
      refine ⟨_, rfl, c, rfl, ⟨_, SqL.of hc⟩, for_list (K := K) (a := c) (xs := natsV ks) (fun i σ H2 => ∃ (v v2 v3 : Option V) (kv2 : List V), σ = [some (.ref d), some (.ref c), v, v2, v3] ∧ H2 k = some (.lst kv2) ∧ Blks H2 kv2 (cr kept ls (ks.take i)) ∧ Kp [k] H' H2)
        ⟨v, none, none, kv, rfl, hk, hkB, Kp.refl _⟩ (fun i σ H2 _ ⟨_, _, _, _, _, _, _, k2⟩ => SqL.of (k2.keep _ _ hc (by simpa using nck))) ?_ ?_⟩
      · rintro i x σ H2 hx ⟨v, v2, v3, kv2, rfl, hk2, hB2, k2⟩
        obtain ⟨j, hj, rfl⟩ := natsV_get hx
        have hjl := hks j (List.mem_of_getElem? hj)
        have hd2 := k2.keep _ _ hd (by simpa using ndk)
        have hl2 := k2.keep _ _ hl (by simpa using Ne.symm n2)
        have hjv : lv[j]? = some lv[j] := List.getElem?_eq_getElem (by omega)
        obtain ⟨e, he, b, ⟨t, et, ht⟩, hb⟩ := pr_get hlB hjv
        have ht2 := k2.tups _ _ ht
        have hb2 := k2.tups _ _ hb
        have hek := hls e (List.mem_of_getElem? he)
        have hkl : kv2.length = kept.length := (pr_len hB2).trans (cr_len ls _ _)
        refine ⟨_, rfl, d, CD K, dx, _, _, rfl, hd2, T.clD, T.naD _ (by decide +kernel), dk_loose, _, rfl, lo, lv, _, _, rfl, rfl, SqL.of hl2, atI_nat hjv, t, _, et, SqT.of ht2, rfl, _, _, rfl, _, _, rfl, rfl, ?_⟩
        refine ⟨_, rfl, _, rfl, d, CD K, dx, _, _, rfl, hd2, T.clD, T.naD _ (by decide +kernel), dk_kept, _, rfl, k, kv2, e.1, e.1, rfl, rfl, hk2, ixN_nat (by omega), ?_⟩
        have kp3 : Kp [k] H2 (upd H2 k (.lst (kv2.set e.1 (.ref b)))) := Kp.put hk2 (fun _ z => by cases z) (by simp)
        refine ⟨some (.int j), some (.int e.1), some (.ref b), kv2.set e.1 (.ref b), rfl, upd_same, ?_, k2.trans kp3⟩
        rw [List.take_add_one, hj, Option.toList_some, cr_snoc]
        have : crW ls (cr kept ls (ks.take i)) j = (cr kept ls (ks.take i)).set e.1 e.2 := by unfold crW; rw [he]
        rw [this]
        exact pr_set (F := Blk _) ⟨b, rfl, kp3.tups _ _ hb2⟩ e.1 (Blks.kp kp3 hB2)
      · rintro σ H2 ⟨v, v2, v3, kv2, rfl, hk2, hB2, k2⟩
        rw [natsV_len, List.take_length] at hB2
        have hd2 := k2.keep _ _ hd (by simpa using ndk)
        refine ⟨_, rfl, d, CD K, dx, _, _, rfl, hd2, T.clD, T.naD _ (by decide +kernel), dk_kept, k, _, rfl, .inl (SqL.of hk2), fun sh' hsh' => ?_⟩
        have hd3 := at_new (x := .lst kv2) hsh' hd2
        have hk3 := at_new (x := .lst kv2) hsh' hk2
        have nsd : sh' ≠ d := fun z => by rw [z, hd2] at hsh'; cases hsh'
        refine ⟨_, rfl, d, CD K, dx, _, rfl, hd3, T.clD, T.naD _ (by decide +kernel), dk_len, ?_⟩
        rw [dk_put_shown]
        refine ⟨Nat.zero_le _, fun lo' hlo' => ?_⟩
        obtain ⟨hlo2, nlod⟩ := no_new hlo'
        obtain ⟨hlo1, nlos⟩ := no_new hlo2
        have hd4 := at_new (x := .lst []) hlo' (show upd (upd H2 sh' (.lst kv2)) d (.ins (CD K) dx (dkF k sh' lo wr l)) d = _ from upd_same)
        refine ⟨_, rfl, d, CD K, dx, _, rfl, hd4, T.clD, T.naD _ (by decide +kernel), dk_len, ?_⟩
        rw [dk_put_loose]
        refine ⟨_, rfl, d, CD K, dx, _, rfl, upd_same, T.clD, T.naD _ (by decide +kernel), dk_len, ?_⟩
        rw [dk_put_left, upd_upd]
        have k5 : Kp [d] H2 (upd (upd (upd (upd H2 sh' (.lst kv2)) d (.ins (CD K) dx (dkF k sh' lo wr l))) lo' (.lst [])) d (.ins (CD K) dx (dkF k sh' lo' wr .non))) :=
          (((Kp.new hsh').trans (Kp.put hd3 (fun _ z => by cases z) (by simp))).trans (Kp.new hlo')).trans (Kp.put hd4 (fun _ z => by cases z) (by simp))
        have nksh : k ≠ sh' := fun z => by rw [← z, hk2] at hsh'; cases hsh'
        have nklo : k ≠ lo' := fun z => by rw [← z, hk2] at hlo1; cases hlo1
        have f1 : H' sh' = none := k2.free hsh' (by simpa using Ne.symm nksh)
        have f2 : H' lo' = none := k2.free hlo1 (by simpa using Ne.symm nklo)
        have hB5 := Blks.kp k5 hB2
        exact q _ sh' lo' f1 f2 ⟨⟨dx, wr, upd_same⟩, ⟨kv2, k5.keep _ _ hk2 (by simpa using Ne.symm ndk), hB5⟩, ⟨kv2, at_put nsd (at_put (Ne.symm nlos) (at_put nsd upd_same)), hB5⟩, ⟨[], at_put nlod upd_same, .nil⟩, nksh, nklo, Ne.symm nlos⟩ ((k2.mono (by simp)).trans (k5.mono (by simp)))
/-! ### a new disk -/
abbrev sDiskI : Stmt := dskS 0
def spDiskI (K : PySem.W.Frag) : Sp := fun vs H Q _ => ∃ (d dx : Addr) (n : Nat), vs = [.ref d, .int n] ∧ H d = some (.ins (CD K) dx []) ∧ n ≤ 1000 ∧ ∀ H' k sh lo, H k = none → H sh = none → H lo = none → DkAt K H' d k sh lo (List.replicate n none) (List.replicate n none) [] .non → Kp [d] H H' → Q .non H'
theorem scDiskI : FnScope ["self", "size"] ["self", "size"] (defScope sDiskI) := ⟨rfl, rfl, rfl, by decide +kernel, rfl, by decide +kernel, by decide +kernel⟩
theorem blks_rep {H : Hp} {t : Addr} (h : H t = some (.tup [])) : ∀ n, Blks H (List.replicate n [V.ref t]).flatten (List.replicate n none)
  | 0 => .nil
  | n + 1 => .cons ⟨t, rfl, h⟩ (blks_rep h n)
/-- [()] * size -/
theorem rep_by {σ : St} {H : Hp} {Q : VK} {n : Nat} (hσ : σ[1]? = some (some (.int (n : Int)))) (hn : n ≤ 1000) (q : ∀ H' k t, H k = none → H' k = some (.lst (List.replicate n [V.ref t]).flatten) → H' t = some (.tup []) → Same H H' → Q (.ref k) H') :
    tOp rRep (tLst (tCons (tTup tNil) tNil)) (tVar 1) σ H Q := by
  refine ⟨Nat.zero_le _, fun t1 ht1 => ⟨(by show 1 ≤ sizeLine; decide), fun p1 hp1 => ?_⟩⟩
  refine ⟨_, hσ, p1, n, [.ref t1], rfl, rfl, upd_same, (by omega), (by omega), (by rw [sizeLine_eq]; simp; omega), fun k hk => ?_⟩
  refine q _ k t1 (no_new (no_new hk).1).1 upd_same (at_new hk (at_new hp1 upd_same)) (((sameNew ht1).trans (sameNew hp1)).trans (sameNew hk))
theorem ok_disk_init (T : Tx K mg) (F : FnP K "__init__" "Disk.__init__" sDiskI f fd) : FnOk P w K mg base (L2.CX P w) 1 f fd ["self", "size"] (spDiskI K) := by
  have sc := scDiskI
  refine F.ok sc (fun vs H Q E h => ?_) (fun cdv A outer s H vs Q E hr h => ?_)
  · obtain ⟨d, _, _, rfl, _⟩ := h
    rfl
  · obtain ⟨d, dx, n, rfl, hd, hn, q⟩ := h
    refine ⟨_, PSs.nox (pss_cons (ps_fld (pv 0) (pe_op op_rep (pe_lst (pa_cons (pe_tup pa_nil) pa_nil)) (pv 1)) rfl)
  (pss_cons (ps_fld (pv 0) (pe_op op_rep (pe_lst (pa_cons (pe_tup pa_nil) pa_nil)) (pv 1)) rfl)
  (pss_cons (ps_fld (pv 0) (pe_lst pa_nil) rfl)
  (pss_cons (ps_fld (pv 0) pe_int rfl)
  (pss_one (ps_fld (pv 0) pe_non rfl)))))), ?_⟩
    refine rep_by rfl hn fun H1 k t1 hk0 hk1 ht1 s1 => ?_
    have hd1 := s1 _ _ hd
    have ndk := ins_lst hd1 hk1
    refine ⟨_, rfl, d, CD K, dx, _, rfl, hd1, T.clD, T.naD _ (by decide +kernel), (by show 0 < 1000; decide), ?_⟩
    have kp2 : Kp [d] H1 (upd H1 d (.ins (CD K) dx (putF "own_kept" (.ref k) []))) := Kp.put hd1 (fun _ z => by cases z) (by simp)
    refine rep_by rfl hn fun H3 sh t3 hs0 hs3 ht3 s3 => ?_
    have hd3 := s3 _ _ (show upd H1 d (.ins (CD K) dx (putF "own_kept" (.ref k) [])) d = _ from upd_same)
    have nds := ins_lst hd3 hs3
    have hs1 : H1 sh = none := by rw [upd_ne (Ne.symm nds)] at hs0; exact hs0
    have nks : k ≠ sh := ne_of_none hk1 hs1
    have hk3 := s3 _ _ (at_put (x := .ins (CD K) dx (putF "own_kept" (.ref k) [])) (Ne.symm ndk) hk1)
    refine ⟨_, rfl, d, CD K, dx, _, rfl, hd3, T.clD, T.naD _ (by decide +kernel), (by show 1 < 1000; decide), ?_⟩
    have kp4 : Kp [d] H3 (upd H3 d (.ins (CD K) dx (putF "own_shown" (.ref sh) (putF "own_kept" (.ref k) [])))) := Kp.put hd3 (fun _ z => by cases z) (by simp)
    refine ⟨Nat.zero_le _, fun lo hlo => ?_⟩
    have hd5 := at_new (x := .lst []) hlo (show upd H3 d (.ins (CD K) dx (putF "own_shown" (.ref sh) (putF "own_kept" (.ref k) []))) d = _ from upd_same)
    refine ⟨_, rfl, d, CD K, dx, _, rfl, hd5, T.clD, T.naD _ (by decide +kernel), (by show 2 < 1000; decide), ?_⟩
    refine ⟨_, rfl, d, CD K, dx, _, rfl, upd_same, T.clD, T.naD _ (by decide +kernel), (by show 3 < 1000; decide), ?_⟩
    refine ⟨_, rfl, d, CD K, dx, _, rfl, upd_same, T.clD, T.naD _ (by decide +kernel), (by show 4 < 1000; decide), ?_⟩
    rw [dk_new, upd_upd, upd_upd]
    have kp5 : Kp [d] (upd H3 d (.ins (CD K) dx (putF "own_shown" (.ref sh) (putF "own_kept" (.ref k) [])))) (upd (upd (upd H3 d (.ins (CD K) dx (putF "own_shown" (.ref sh) (putF "own_kept" (.ref k) [])))) lo (.lst [])) d (.ins (CD K) dx (dkF k sh lo 0 .non))) :=
      (Kp.new hlo).trans (Kp.put hd5 (fun _ z => by cases z) (by simp))
    have kp35 := kp4.trans kp5
    have hlo3 : H3 lo = none := by rw [upd_ne (fun z => by rw [z, upd_same] at hlo; cases hlo)] at hlo; exact hlo
    have nlod : lo ≠ d := fun z => by rw [z, hd3] at hlo3; cases hlo3
    have nklo : k ≠ lo := ne_of_none hk3 hlo3
    have nslo : sh ≠ lo := ne_of_none hs3 hlo3
    have kall := (((Kp.same (fp := [d]) s1).trans kp2).trans (Kp.same s3)).trans kp35
    refine q _ k sh lo hk0 (s1.free hs1) (((((Kp.same (fp := [d]) s1).trans kp2).trans (Kp.same s3))).free hlo3 (by simpa using nlod)) ⟨⟨dx, 0, upd_same⟩, ⟨_, kp35.keep _ _ hk3 (by simpa using Ne.symm ndk), blks_rep (kp35.tups _ _ (s3 _ _ (kp2.tups _ _ ht1))) n⟩, ⟨_, kp35.keep _ _ hs3 (by simpa using Ne.symm nds), blks_rep (kp35.tups _ _ ht3) n⟩, ⟨[], at_put nlod upd_same, .nil⟩, nks, nklo, nslo⟩ kall
end
end K51
end L2
set_option Elab.async false
set_option linter.all false
set_option maxRecDepth 100000
set_option maxHeartbeats 4000000
/-! KD7: the log: what only looks. -/
namespace L2
open PySem PySem.Spec PyProof.Rows
namespace K51
def lgF (d : Addr) (c n b nx : Int) (lr : Addr) (tl : List (Str × V)) : List (Str × V) := ("own_disk", .ref d) :: ("own_first", .int 2) :: ("own_count", .int c) :: ("own_needed", .int n) :: ("own_begin", .int b) :: ("own_next", .int nx) :: ("own_records", .ref lr) :: tl
def tlE (e : Int) : List (Str × V) := [("own_epoch", .int e)]
def tlS (e s : Int) : List (Str × V) := [("own_epoch", .int e), ("own_safe", .int s)]
def Tl (tl : List (Str × V)) : Prop := tl = [] ∨ (∃ e, tl = tlE e) ∨ ∃ e s, tl = tlS e s
section
variable {d lr a : Addr} {c n b nx z e s : Int} {tl : List (Str × V)}
theorem lg_disk : (lgF d c n b nx lr tl).lookup ("own_disk" : Str) = some (.ref d) := by kernel_rfl
theorem lg_first : (lgF d c n b nx lr tl).lookup ("own_first" : Str) = some (.int 2) := by kernel_rfl
theorem lg_count : (lgF d c n b nx lr tl).lookup ("own_count" : Str) = some (.int c) := by kernel_rfl
theorem lg_needed : (lgF d c n b nx lr tl).lookup ("own_needed" : Str) = some (.int n) := by kernel_rfl
theorem lg_begin : (lgF d c n b nx lr tl).lookup ("own_begin" : Str) = some (.int b) := by kernel_rfl
theorem lg_next : (lgF d c n b nx lr tl).lookup ("own_next" : Str) = some (.int nx) := by kernel_rfl
theorem lg_records : (lgF d c n b nx lr tl).lookup ("own_records" : Str) = some (.ref lr) := by kernel_rfl
theorem lg_epochE : (lgF d c n b nx lr (tlE e)).lookup ("own_epoch" : Str) = some (.int e) := by kernel_rfl
theorem lg_epoch : (lgF d c n b nx lr (tlS e s)).lookup ("own_epoch" : Str) = some (.int e) := by kernel_rfl
theorem lg_safe : (lgF d c n b nx lr (tlS e s)).lookup ("own_safe" : Str) = some (.int s) := by kernel_rfl
theorem lg_put_needed : putF "own_needed" (.int z) (lgF d c n b nx lr tl) = lgF d c z b nx lr tl := by kernel_rfl
theorem lg_put_begin : putF "own_begin" (.int z) (lgF d c n b nx lr tl) = lgF d c n z nx lr tl := by kernel_rfl
theorem lg_put_next : putF "own_next" (.int z) (lgF d c n b nx lr tl) = lgF d c n b z lr tl := by kernel_rfl
theorem lg_put_records : putF "own_records" (.ref a) (lgF d c n b nx lr tl) = lgF d c n b nx a tl := by kernel_rfl
theorem lg_put_epoch : putF "own_epoch" (.int z) (lgF d c n b nx lr []) = lgF d c n b nx lr (tlE z) := by kernel_rfl
theorem lg_put_safe0 : putF "own_safe" (.int z) (lgF d c n b nx lr (tlE e)) = lgF d c n b nx lr (tlS e z) := by kernel_rfl
theorem lg_put_safe : putF "own_safe" (.int z) (lgF d c n b nx lr (tlS e s)) = lgF d c n b nx lr (tlS e z) := by kernel_rfl
theorem lg_new : putF "own_records" (.ref lr) (putF "own_next" (.int nx) (putF "own_begin" (.int b) (putF "own_needed" (.int n) (putF "own_count" (.int c) (putF "own_first" (.int 2) (putF "own_disk" (.ref d) [])))))) = lgF d c n b nx lr [] := by kernel_rfl
theorem none_of {l : List (Str × V)} {ms : List Str} (h : ms.map (fun m => (l.lookup m).isNone) = ms.map fun _ => true) : ∀ m ∈ ms, l.lookup m = none := by
  intro m hm
  obtain ⟨i, hi, e⟩ := List.mem_iff_getElem.mp hm
  have h2 := congrArg (fun l => l[i]?) h
  simp only [List.getElem?_map, List.getElem?_eq_getElem hi, Option.map_some, e] at h2
  simpa using h2
theorem lg_meth (h : Tl tl) : ∀ m ∈ lM, (lgF d c n b nx lr tl).lookup m = none := by
  rcases h with rfl | ⟨e, rfl⟩ | ⟨e, s, rfl⟩
  · exact none_of (by kernel_rfl)
  · exact none_of (by kernel_rfl)
  · exact none_of (by kernel_rfl)
theorem lg_len (h : Tl tl) : (lgF d c n b nx lr tl).length < 1000 := by
  rcases h with rfl | ⟨e, rfl⟩ | ⟨e, s, rfl⟩
  · show 7 < 1000; decide
  · show 8 < 1000; decide
  · show 9 < 1000; decide
end
theorem tl0 : Tl [] := .inl rfl
theorem tl1 {e : Int} : Tl (tlE e) := .inr (.inl ⟨e, rfl⟩)
theorem tl2 {e s : Int} : Tl (tlS e s) := .inr (.inr ⟨e, s, rfl⟩)
section
variable {P : Program} {w : World} {K : PySem.W.Frag} {mg : Str → Option Value} {base : Heap} {f : Addr} {fd : FuncData}
abbrev mL (K : PySem.W.Frag) (m : Str) : Addr := He.ma K (CL K) m
/-- the log at g, whatever else -/
def LgI (K : PySem.W.Frag) (H : Hp) (g d : Addr) (c n b nx : Int) (lr : Addr) (tl : List (Str × V)) : Prop := Tl tl ∧ ∃ dx, H g = some (.ins (CL K) dx (lgF d c n b nx lr tl))
abbrev sMany : Stmt := logS 12
def spMany (K : PySem.W.Frag) : Sp := fun vs H Q _ => ∃ (g d : Addr) (c n b nx : Int) (lr : Addr) (tl : List (Str × V)) (rv : List V), vs = [.ref g] ∧ LgI K H g d c n b nx lr tl ∧ H lr = some (.lst rv) ∧ Q (.int (b + rv.length)) H
theorem scMany : FnScope ["self"] ["self"] (defScope sMany) := ⟨rfl, rfl, rfl, by decide +kernel, rfl, by decide +kernel, by decide +kernel⟩
theorem ok_many (T : Tx K mg) (F : FnP K "many" "Log.many" sMany f fd) : FnOk P w K mg base (L2.CX P w) 1 f fd ["self"] (spMany K) := by
  have sc := scMany
  refine F.ok sc (fun vs H Q E h => ?_) (fun cdv A outer s H vs Q E hr h => ?_)
  · obtain ⟨g, _, _, _, _, _, _, _, _, rfl, _⟩ := h
    rfl
  · obtain ⟨g, d, c, n, b, nx, lr, tl, rv, rfl, ⟨ht, dx, hg⟩, hl, q⟩ := h
    refine ⟨_, PSs.nox (pss_one (ps_ret (pe_op op_add (pe_fld (pv 0) rfl) (pe_callB call_len (by rfl) (T.fr "len" (by decide +kernel)) (by decide +kernel) (pa_cons (pe_fld (pv 0) rfl) pa_nil))))), ?_⟩
    exact ⟨_, rfl, g, CL K, dx, _, _, rfl, hg, T.clL, T.naL _ (by decide +kernel), lg_begin, _, rfl, g, CL K, dx, _, _, rfl, hg, T.clL, T.naL _ (by decide +kernel), lg_records, _, _, rfl, .inl ⟨_, SqL.of hl, rfl⟩, _, _, rfl, rfl, q⟩
abbrev sSafe : Stmt := logS 13
def spSafe (K : PySem.W.Frag) : Sp := fun vs H Q _ => ∃ (g d : Addr) (c n b nx : Int) (lr : Addr) (e s : Int), vs = [.ref g] ∧ LgI K H g d c n b nx lr (tlS e s) ∧ Q (.int s) H
theorem scSafe : FnScope ["self"] ["self"] (defScope sSafe) := ⟨rfl, rfl, rfl, by decide +kernel, rfl, by decide +kernel, by decide +kernel⟩
theorem ok_safe (T : Tx K mg) (F : FnP K "safe" "Log.safe" sSafe f fd) : FnOk P w K mg base (L2.CX P w) 1 f fd ["self"] (spSafe K) := by
  have sc := scSafe
  refine F.ok sc (fun vs H Q E h => ?_) (fun cdv A outer s H vs Q E hr h => ?_)
  · obtain ⟨g, _, _, _, _, _, _, _, _, rfl, _⟩ := h
    rfl
  · obtain ⟨g, d, c, n, b, nx, lr, e, sf, rfl, ⟨ht, dx, hg⟩, q⟩ := h
    refine ⟨_, PSs.nox (pss_one (ps_ret (pe_fld (pv 0) rfl))), ?_⟩
    exact ⟨_, rfl, g, CL K, dx, _, _, rfl, hg, T.clL, T.naL _ (by decide +kernel), lg_safe, q⟩
abbrev sEpoch : Stmt := logS 14
def spEpoch (K : PySem.W.Frag) : Sp := fun vs H Q _ => ∃ (g d : Addr) (c n b nx : Int) (lr : Addr) (e s : Int), vs = [.ref g] ∧ LgI K H g d c n b nx lr (tlS e s) ∧ Q (.int e) H
theorem scEpoch : FnScope ["self"] ["self"] (defScope sEpoch) := ⟨rfl, rfl, rfl, by decide +kernel, rfl, by decide +kernel, by decide +kernel⟩
theorem ok_epoch (T : Tx K mg) (F : FnP K "epoch" "Log.epoch" sEpoch f fd) : FnOk P w K mg base (L2.CX P w) 1 f fd ["self"] (spEpoch K) := by
  have sc := scEpoch
  refine F.ok sc (fun vs H Q E h => ?_) (fun cdv A outer s H vs Q E hr h => ?_)
  · obtain ⟨g, _, _, _, _, _, _, _, _, rfl, _⟩ := h
    rfl
  · obtain ⟨g, d, c, n, b, nx, lr, e, sf, rfl, ⟨ht, dx, hg⟩, q⟩ := h
    refine ⟨_, PSs.nox (pss_one (ps_ret (pe_fld (pv 0) rfl))), ?_⟩
    exact ⟨_, rfl, g, CL K, dx, _, _, rfl, hg, T.clL, T.naL _ (by decide +kernel), lg_epoch, q⟩
abbrev sNextB : Stmt := logS 15
def spNextB (K : PySem.W.Frag) : Sp := fun vs H Q _ => ∃ (g d : Addr) (c n b nx : Int) (lr : Addr) (tl : List (Str × V)), vs = [.ref g] ∧ LgI K H g d c n b nx lr tl ∧ Q (.int nx) H
theorem scNextB : FnScope ["self"] ["self"] (defScope sNextB) := ⟨rfl, rfl, rfl, by decide +kernel, rfl, by decide +kernel, by decide +kernel⟩
theorem ok_next_block (T : Tx K mg) (F : FnP K "next_block" "Log.next_block" sNextB f fd) : FnOk P w K mg base (L2.CX P w) 1 f fd ["self"] (spNextB K) := by
  have sc := scNextB
  refine F.ok sc (fun vs H Q E h => ?_) (fun cdv A outer s H vs Q E hr h => ?_)
  · obtain ⟨g, _, _, _, _, _, _, _, rfl, _⟩ := h
    rfl
  · obtain ⟨g, d, c, n, b, nx, lr, tl, rfl, ⟨ht, dx, hg⟩, q⟩ := h
    refine ⟨_, PSs.nox (pss_one (ps_ret (pe_fld (pv 0) rfl))), ?_⟩
    exact ⟨_, rfl, g, CL K, dx, _, _, rfl, hg, T.clL, T.naL _ (by decide +kernel), lg_next, q⟩
abbrev sPlace : Stmt := logS 3
def spPlace (K : PySem.W.Frag) : Sp := fun vs H Q _ => ∃ (g d : Addr) (c : Nat) (n b nx : Int) (lr : Addr) (tl : List (Str × V)) (bl : Nat), vs = [.ref g, .int bl] ∧ LgI K H g d c n b nx lr tl ∧ 0 < c ∧ Q (.int ((2 + bl % c : Nat) : Int)) H
theorem scPlace : FnScope ["self", "block"] ["self", "block"] (defScope sPlace) := ⟨rfl, rfl, rfl, by decide +kernel, rfl, by decide +kernel, by decide +kernel⟩
theorem ok_place_of (T : Tx K mg) (F : FnP K "place_of" "Log.place_of" sPlace f fd) : FnOk P w K mg base (L2.CX P w) 1 f fd ["self", "block"] (spPlace K) := by
  have sc := scPlace
  refine F.ok sc (fun vs H Q E h => ?_) (fun cdv A outer s H vs Q E hr h => ?_)
  · obtain ⟨g, _, _, _, _, _, _, _, _, rfl, _⟩ := h
    rfl
  · obtain ⟨g, d, c, n, b, nx, lr, tl, bl, rfl, ⟨ht, dx, hg⟩, hc, q⟩ := h
    refine ⟨_, PSs.nox (pss_one (ps_ret (pe_op op_add (pe_fld (pv 0) rfl) (pe_op op_modN (pv 1) (pe_fld (pv 0) rfl))))), ?_⟩
    refine ⟨_, rfl, g, CL K, dx, _, _, rfl, hg, T.clL, T.naL _ (by decide +kernel), lg_first, _, rfl, _, rfl, g, CL K, dx, _, _, rfl, hg, T.clL, T.naL _ (by decide +kernel), lg_count, _, _, rfl, rfl, by omega, _, _, rfl, rfl, ?_⟩
    rw [Int.fmod_eq_emod_of_nonneg _ (by omega)]
    show Q (.int ((2 : Int) + (bl : Int) % (c : Int))) H
    rw [show (2 : Int) + (bl : Int) % (c : Int) = ((2 + bl % c : Nat) : Int) by omega]
    exact q
abbrev sPartAt : Stmt := logS 4
def spPartAt (K : PySem.W.Frag) : Sp := fun vs H Q _ => ∃ (g d : Addr) (c : Nat) (n b nx : Int) (lr : Addr) (tl : List (Str × V)) (bl : Nat) (k sh lo : Addr) (kept shown : Pl) (ls : List (Nat × Option Pt)) (l : V), vs = [.ref g, .int bl] ∧ LgI K H g d c n b nx lr tl ∧ DkAt K H d k sh lo kept shown ls l ∧
  0 < c ∧ shown.length = c + 3 ∧ PlOk shown ∧ ∀ H' v, PartV H' v (RM.atB shown c bl) → Same H H' → Q v H'
theorem scPartAt : FnScope ["self", "block"] ["self", "block"] (defScope sPartAt) := ⟨rfl, rfl, rfl, by decide +kernel, rfl, by decide +kernel, by decide +kernel⟩
/-- part_of(disk.read(place)) -/
theorem read_by {H : Hp} {d k sh lo : Addr} {kept shown : Pl} {ls : List (Nat × Option Pt)} {l : V} {j : Nat} {Q : VK} {E : XK} (D : DkAt K H d k sh lo kept shown ls l) (hj : j < shown.length) (hp : PlOk shown) (q : ∀ H' v, PartV H' v (shown.getD j none) → Same H H' → Q v H') :
    spRead K [.ref d, .int j] H (fun v H' => spPartOf [v] H' Q E0) E := by
  obtain ⟨⟨dx, wr, hd⟩, _, ⟨sv, hs, hsB⟩, _, _, _, _⟩ := D
  have hl := pr_len hsB
  have e1 : sv[j]? = some sv[j] := List.getElem?_eq_getElem (by omega)
  obtain ⟨ob, e2, a, e3, ha⟩ := pr_get hsB e1
  have e4 : shown.getD j none = ob := by rw [List.getD_eq_getElem?_getD, e2]; rfl
  refine ⟨d, j, dx, k, sh, lo, wr, l, sv, _, rfl, hd, hs, e1, a, ob, by rw [e3], ha, fun p e => hp p ?_, ?_⟩
  · rw [← e]; exact List.mem_of_getElem? e2
  · rw [← e4]; exact q
theorem ok_part_at (T : Tx K mg) (kP : Kn P w K mg base (L2.CX P w) 3 (He.ga K "part_of") ["block"] spPartOf) (kR : Kn P w K mg base (L2.CX P w) 2 (mD K "read") ["self", "place"] (spRead K)) (kO : Kn P w K mg base (L2.CX P w) 1 (mL K "place_of") ["self", "block"] (spPlace K)) (F : FnP K "part_at" "Log.part_at" sPartAt f fd) : FnOk P w K mg base (L2.CX P w) 4 f fd ["self", "block"] (spPartAt K) := by
  have sc := scPartAt
  obtain ⟨_, G_part_of, b_part_of, k_part_of⟩ := kP
  obtain ⟨_, G_D_read, b_D_read, _⟩ := kR
  obtain ⟨_, G_L_place_of, b_L_place_of, _⟩ := kO
  refine F.ok sc (fun vs H Q E h => ?_) (fun cdv A outer s H vs Q E hr h => ?_)
  · obtain ⟨g, _, _, _, _, _, _, _, _, _, _, _, _, _, _, _, rfl, _⟩ := h
    rfl
  · obtain ⟨g, d, c, n, b, nx, lr, tl, bl, k, sh, lo, kept, shown, ls, l, rfl, ⟨ht, dx, hg⟩, D, hc, hS, hP, q⟩ := h
    refine ⟨_, PSs.nox (pss_one (ps_ret (pe_call G_part_of (hr.mono (by decide)) rfl (T.gl "part_of" (by decide +kernel)) k_part_of b_part_of .nil passL (pa_cons (pe_meth (pe_fld (pv 0) rfl) T.clD (T.meD "read" (by decide +kernel)) G_D_read (hr.mono (by decide)) b_D_read .nil passL (pa_cons (pe_meth (pv 0) T.clL (T.meL "place_of" (by decide +kernel)) G_L_place_of (hr.mono (by decide)) b_L_place_of .nil passL (pa_cons (pv 1) pa_nil)) pa_nil)) pa_nil)))), ?_⟩
    obtain ⟨ddx, wr, hd⟩ := D.ins
    refine ⟨_, rfl, g, CL K, dx, _, _, rfl, hg, T.clL, T.naL _ (by decide +kernel), lg_disk, d, ddx, _, rfl, hd, dk_meth _ (by decide +kernel), ?_⟩
    refine ⟨_, rfl, g, dx, _, rfl, hg, lg_meth ht _ (by decide +kernel), _, rfl, g, d, c, n, b, nx, lr, tl, bl, rfl, ⟨ht, dx, hg⟩, hc, ?_⟩
    exact read_by (E := E) D (by have := Nat.mod_lt bl hc; omega) hP q
abbrev sWaiting : Stmt := logS 6
def spWaiting (K : PySem.W.Frag) : Sp := fun vs H Q _ => ∃ (g d : Addr) (c n nx : Int) (b : Nat) (lr : Addr) (e : Int) (s : Nat) (rv : List V), vs = [.ref g] ∧ LgI K H g d c n b nx lr (tlS e s) ∧ H lr = some (.lst rv) ∧ b ≤ s ∧ s ≤ b + rv.length ∧
  ∀ H' p, H p = none → H' p = some (.lst (rv.drop (s - b))) → Same H H' → Q (.ref p) H'
theorem scWaiting : FnScope ["self"] ["self"] (defScope sWaiting) := ⟨rfl, rfl, rfl, by decide +kernel, rfl, by decide +kernel, by decide +kernel⟩
theorem ok_waiting (T : Tx K mg) (F : FnP K "waiting" "Log.waiting" sWaiting f fd) : FnOk P w K mg base (L2.CX P w) 1 f fd ["self"] (spWaiting K) := by
  have sc := scWaiting
  refine F.ok sc (fun vs H Q E h => ?_) (fun cdv A outer s H vs Q E hr h => ?_)
  · obtain ⟨g, _, _, _, _, _, _, _, _, _, rfl, _⟩ := h
    rfl
  · obtain ⟨g, d, c, n, nx, b, lr, e, sf, rv, rfl, ⟨ht, dx, hg⟩, hl, h1, h2, q⟩ := h
    refine ⟨_, PSs.nox (pss_one (ps_ret (pe_slice sl_list (pe_fld (pv 0) rfl) (po_some (pe_op op_sub (pe_fld (pv 0) rfl) (pe_fld (pv 0) rfl))) po_none))), ?_⟩
    refine ⟨_, rfl, g, CL K, dx, _, _, rfl, hg, T.clL, T.naL _ (by decide +kernel), lg_records, _, rfl, g, CL K, dx, _, _, rfl, hg, T.clL, T.naL _ (by decide +kernel), lg_safe, _, rfl, g, CL K, dx, _, _, rfl, hg, T.clL, T.naL _ (by decide +kernel), lg_begin, _, _, rfl, rfl, _, rfl, lr, _, rfl, SqL.of hl, fun p hp => ?_⟩
    refine q _ p hp ?_ (sameNew hp)
    rw [upd_same, show (sf : Int) - (b : Int) = ((sf - b : Nat) : Int) by omega, cut_n _ _ (by omega)]
end
end K51
end L2
set_option Elab.async false
set_option linter.all false
set_option maxRecDepth 100000
set_option maxHeartbeats 4000000
/-! KD8: the log: parts, append, fits, read_on. -/
namespace L2
open PySem PySem.Spec PyProof.Rows
namespace K51
/-! ### inside a comprehension: the fragment named -/
section
variable {X : Cx} {e : Expr} {f : Str} {pos : Pos} {ta : TE}
theorem pe_fldC (K : PySem.W.Frag) (hK : X.K = K) (he : PE X e ta) (hb : attributeBase e f X.env (eval e X.env) = eval e X.env) : PE X (.Attribute e f pos) (tFld K ta f) := hK ▸ pe_fld he hb
theorem ix_tupC (K : PySem.W.Frag) (hK : X.K = K) : IxR X (rIxT K) := hK ▸ ix_tup
theorem ix_listC (K : PySem.W.Frag) (hK : X.K = K) : IxR X (rIxL K) := hK ▸ ix_list
theorem call_lenC (K : PySem.W.Frag) (hK : X.K = K) : CallR X (.builtin "len") (fun xs H Q => ∃ x n, xs = [x] ∧ LenV K x H n ∧ Q (.int n) H) := hK ▸ call_len
end
/-- the addresses of a log and its disk are apart -/
structure Sep (g d k sh lo lr : Addr) : Prop where
  gd : g ≠ d
  rk : lr ≠ k
  rs : lr ≠ sh
  ro : lr ≠ lo
section
variable {P : Program} {w : World} {K : PySem.W.Frag} {mg : Str → Option Value} {base : Heap} {f : Addr} {fd : FuncData}
theorem LgI.same {H H' : Hp} {g d : Addr} {c n b nx : Int} {lr : Addr} {tl : List (Str × V)} (L : LgI K H g d c n b nx lr tl) (s : Same H H') : LgI K H' g d c n b nx lr tl := by
  obtain ⟨ht, dx, hg⟩ := L
  exact ⟨ht, dx, s _ _ hg⟩
theorem LgI.kp {fp : List Addr} {H H' : Hp} {g d : Addr} {c n b nx : Int} {lr : Addr} {tl : List (Str × V)} (L : LgI K H g d c n b nx lr tl) (s : Kp fp H H') (h : g ∉ fp) : LgI K H' g d c n b nx lr tl := by
  obtain ⟨ht, dx, hg⟩ := L
  exact ⟨ht, dx, s.keep _ _ hg h⟩
/-- what stays of a part, whatever is written: the tuple -/
def PartT (H : Hp) (v : V) : Option Pt → Prop
  | none => v = .non
  | some p => ∃ (t : Addr) (x : V), v = .ref t ∧ H t = some (.tup [.int p.num, .int p.ep, .int p.fst, x])
theorem PartV.tup {H : Hp} {v : V} : ∀ {ob : Option Pt}, PartV H v ob → PartT H v ob
  | none, h => h
  | some p, ⟨t, l, _, e, h, _⟩ => ⟨t, _, e, h⟩
theorem PartT.kp {fp : List Addr} {H H' : Hp} (k : Kp fp H H') {v : V} : ∀ {ob : Option Pt}, PartT H v ob → PartT H' v ob
  | none, h => h
  | some p, ⟨t, x, e, h⟩ => ⟨t, x, e, k.tups _ _ h⟩
abbrev sParts : Stmt := logS 1
def spParts (K : PySem.W.Frag) : Sp := fun vs H Q _ => ∃ (g d : Addr) (c : Nat) (n b nx : Int) (lr : Addr) (tl : List (Str × V)) (k sh lo : Addr) (kept shown : Pl) (ls : List (Nat × Option Pt)) (l : V), vs = [.ref g] ∧ LgI K H g d c n b nx lr tl ∧ DkAt K H d k sh lo kept shown ls l ∧
  c ≤ 100 ∧ shown.length = c + 3 ∧ PlOk shown ∧ ∀ H' p pv, H p = none → H' p = some (.lst pv) → Paired (PartT H') pv ((List.range c).map fun i => shown.getD (2 + i) none) → Same H H' → Q (.ref p) H'
theorem scParts : FnScope ["self", "place"] ["self"] (defScope sParts) := ⟨rfl, rfl, rfl, by decide +kernel, rfl, by decide +kernel, by decide +kernel⟩
theorem ok_parts (T : Tx K mg) (kP : Kn P w K mg base (L2.CX P w) 3 (He.ga K "part_of") ["block"] spPartOf) (kR : Kn P w K mg base (L2.CX P w) 2 (mD K "read") ["self", "place"] (spRead K)) (F : FnP K "parts" "Log.parts" sParts f fd) : FnOk P w K mg base (L2.CX P w) 4 f fd ["self"] (spParts K) := by
  have sc := scParts
  obtain ⟨_, G_part_of, b_part_of, k_part_of⟩ := kP
  obtain ⟨_, G_D_read, b_D_read, _⟩ := kR
  refine F.ok sc (fun vs H Q E h => ?_) (fun cdv A outer s H vs Q E hr h => ?_)
  · obtain ⟨g, _, _, _, _, _, _, _, _, _, _, _, _, _, _, rfl, _⟩ := h
    rfl
  · obtain ⟨g, d, c, n, b, nx, lr, tl, k, sh, lo, kept, shown, ls, l, rfl, L, D, hc, hS, hP, q⟩ := h
    refine ⟨_, PSs.nox (pss_one (ps_ret (pe_lc (own := [("place", 1)]) (g := gName 1) (tt := tYes) rfl sc.nd (pi_range1 (by rfl) (T.fr "range" (by decide +kernel)) (pa_cons (pe_fld (pv 0) rfl) pa_nil)) (blkOk_by (N := ["self", "place"]) (sc := defScope sParts) (by decide +kernel)) (fun _ _ _ _ _ => pg_name (i := 1) sc.nd rfl (Or.inl rfl)) (fun _ _ _ _ _ => pts_nil) (fun _ _ _ _ _ => (pe_call G_part_of (hr.mono (by decide)) rfl (T.gl "part_of" (by decide +kernel)) k_part_of b_part_of .nil passL (pa_cons (pe_meth (pe_fldC K (by rfl) (pv 0) (by rfl)) T.clD (T.meD "read" (by decide +kernel)) G_D_read (hr.mono (by decide)) b_D_read .nil passL (pa_cons (pe_op op_add (pe_fldC K (by rfl) (pv 0) (by rfl)) (pv 1)) pa_nil)) pa_nil)))))), ?_⟩
    obtain ⟨ht, dx, hg⟩ := L
    refine ⟨_, rfl, g, CL K, dx, _, _, rfl, hg, T.clL, T.naL _ (by decide +kernel), lg_count, c, rfl, by omega, by omega, fun p hp => ?_⟩
    refine lc_range (lo := 0) (n := (c : Int).toNat) (fun i H' => Same H H' ∧ ∃ pv, H' p = some (.lst pv) ∧ Paired (PartT H') pv ((List.range i).map fun i => shown.getD (2 + i) none)) ⟨sameNew hp, [], upd_same, .nil⟩ ?_ ?_
    · rintro i H' hi ⟨s1, pv, h1, h2⟩
      have hi : i < c := by simpa using hi
      refine ⟨rfl, ?_⟩
      have D1 := D.same s1
      obtain ⟨ddx, wr, hd⟩ := D1.ins
      have hg1 := s1 _ _ hg
      refine ⟨_, rfl, g, CL K, dx, _, _, rfl, hg1, T.clL, T.naL _ (by decide +kernel), lg_disk, d, ddx, _, rfl, hd, dk_meth _ (by decide +kernel), ?_⟩
      refine ⟨_, rfl, g, CL K, dx, _, _, rfl, hg1, T.clL, T.naL _ (by decide +kernel), lg_first, _, rfl, _, _, rfl, rfl, ?_⟩
      show spRead K [.ref d, .int ((2 : Int) + (0 + (i : Int)))] H' _ E0
      rw [show (2 : Int) + (0 + (i : Int)) = ((2 + i : Nat) : Int) by omega]
      refine read_by (E := E0) D1 (by omega) hP fun H2 v hv s2 => ?_
      refine ⟨pv, s2 _ _ h1, ?_, ?_, ?_⟩
      · have e := pr_len h2
        rw [List.length_map, List.length_range] at e
        rw [sizeLine_eq]; omega
      · refine fun b o e => ?_
        have hbp : b ≠ p := ne_of_none e hp
        rw [upd_ne hbp]
        exact s2 _ _ (s1 _ _ e)
      · have kp : Kp [p] H' (upd H2 p (.lst (pv ++ [v]))) := (Kp.same (fp := [p]) s2).trans (Kp.put (s2 _ _ h1) (fun _ z => by cases z) (by simp))
        rw [upd_same, List.range_succ, List.map_append]
        exact ⟨_, rfl, pr_append (Paired.mapP h2 fun _ _ z => z.kp kp) (pr_one (hv.tup.kp (Kp.put (fp := [p]) (s2 _ _ h1) (fun _ z => by cases z) (by simp))))⟩
    · rintro H' ⟨s1, pv, h1, h2⟩
      rw [Int.toNat_natCast] at h2
      exact q H' p pv hp h1 h2 s1
abbrev sAppend : Stmt := logS 5
def spAppend (K : PySem.W.Frag) : Sp := fun vs H Q _ => ∃ (g d : Addr) (c n b nx : Int) (lr : Addr) (tl : List (Str × V)) (rv : List V) (a : Addr) (r : List V), vs = [.ref g, .ref a] ∧ LgI K H g d c n b nx lr tl ∧ H lr = some (.lst rv) ∧ H a = some (.tup r) ∧ rv.length ≤ 1000 ∧
  ∀ H', LgI K H' g d c n b nx lr tl → H' lr = some (.lst (rv ++ [.ref a])) → Kp [lr] H H' → Q (.int (b + rv.length)) H'
theorem scAppend : FnScope ["self", "record"] ["self", "record"] (defScope sAppend) := ⟨rfl, rfl, rfl, by decide +kernel, rfl, by decide +kernel, by decide +kernel⟩
theorem ok_append (T : Tx K mg) (kM : Kn P w K mg base (L2.CX P w) 1 (mL K "many") ["self"] (spMany K)) (F : FnP K "append" "Log.append" sAppend f fd) : FnOk P w K mg base (L2.CX P w) 2 f fd ["self", "record"] (spAppend K) := by
  have sc := scAppend
  obtain ⟨_, G_L_many, b_L_many, _⟩ := kM
  refine F.ok sc (fun vs H Q E h => ?_) (fun cdv A outer s H vs Q E hr h => ?_)
  · obtain ⟨g, _, _, _, _, _, _, _, _, _, _, rfl, _⟩ := h
    rfl
  · obtain ⟨g, d, c, n, b, nx, lr, tl, rv, a, r, rfl, L, hl, ha, hz, q⟩ := h
    obtain ⟨ht, dx, hg⟩ := L
    refine ⟨_, PSs.nox (pss_cons (ps_expr (pe_bm PySem.F.plainAttrs_list PySem.F.slot_list_append PySem.F.type_list_append mt_append (pe_fld (pv 0) rfl) (pa_cons (pe_callTy call_tupleT (by rfl) (T.fr "tuple" (by decide +kernel)) (by decide +kernel) (pa_cons (pv 1) pa_nil)) pa_nil)))
  (pss_one (ps_ret (pe_op op_sub (pe_meth0 (pv 0) T.clL (T.meL "many" (by decide +kernel)) G_L_many (hr.mono (by decide)) b_L_many .nil passL) pe_int)))), ?_⟩
    refine ⟨_, rfl, g, CL K, dx, _, _, rfl, hg, T.clL, T.naL _ (by decide +kernel), lg_records, tyL hl, _, rfl, _, _, rfl, SqT.of ha, _, _, _, rfl, rfl, hl, (by rw [sizeLine_eq]; omega), ?_⟩
    have kp : Kp [lr] H (upd H lr (.lst (rv ++ [.ref a]))) := Kp.put hl (fun _ z => by cases z) (by simp)
    have ngl := ins_lst hg hl
    have L1 : LgI K (upd H lr (.lst (rv ++ [.ref a]))) g d c n b nx lr tl := ⟨ht, dx, at_put ngl hg⟩
    obtain ⟨_, dx1, hg1⟩ := L1
    refine ⟨_, rfl, g, dx1, _, rfl, hg1, lg_meth ht _ (by decide +kernel), ?_⟩
    unfold tNil
    refine ⟨g, d, c, n, b, nx, lr, tl, _, rfl, ⟨ht, dx1, hg1⟩, upd_same, _, _, rfl, rfl, ?_⟩
    show Q (.int (b + ((rv ++ [V.ref a]).length : Int) - 1)) _
    rw [show b + ((rv ++ [V.ref a]).length : Int) - 1 = b + rv.length by rw [List.length_append]; simp; omega]
    exact q _ ⟨ht, dx1, hg1⟩ upd_same kp
abbrev sFits : Stmt := logS 7
def spFits (K : PySem.W.Frag) : Sp := fun vs H Q _ => ∃ (g d : Addr) (c n nx : Int) (b : Nat) (lr : Addr) (e : Int) (s : Nat) (rv : List V) (rs : List (List V)) (x : Addr), vs = [.ref g, .ref x] ∧ LgI K H g d c n b nx lr (tlS e s) ∧ H lr = some (.lst rv) ∧ Recs H rv rs ∧ b ≤ s ∧ s ≤ b + rv.length ∧ rv.length ≤ 1000 ∧ H x = some (.lst []) ∧
  ∀ H', Same H H' → Q (.bl (decide (((pk8 (rs.drop (s - b))).length : Int) ≤ c - (nx - n)))) H'
theorem scFits : FnScope ["self", "records"] ["self", "records"] (defScope sFits) := ⟨rfl, rfl, rfl, by decide +kernel, rfl, by decide +kernel, by decide +kernel⟩
theorem ok_fits (T : Tx K mg) (kK : Kn P w K mg base (L2.CX P w) 1 (He.ga K "packed") ["records"] (spPacked K)) (kW : Kn P w K mg base (L2.CX P w) 1 (mL K "waiting") ["self"] (spWaiting K)) (F : FnP K "fits" "Log.fits" sFits f fd) : FnOk P w K mg base (L2.CX P w) 2 f fd ["self", "records"] (spFits K) := by
  have sc := scFits
  obtain ⟨_, G_packed, b_packed, k_packed⟩ := kK
  obtain ⟨_, G_L_waiting, b_L_waiting, _⟩ := kW
  refine F.ok sc (fun vs H Q E h => ?_) (fun cdv A outer s H vs Q E hr h => ?_)
  · obtain ⟨g, _, _, _, _, _, _, _, _, _, _, _, rfl, _⟩ := h
    rfl
  · obtain ⟨g, d, c, n, nx, b, lr, e, sf, rv, rs, x, rfl, L, hl, hR, h1, h2, hz, hx, q⟩ := h
    obtain ⟨ht, dx, hg⟩ := L
    refine ⟨_, PSs.nox (pss_one (ps_ret (pe_cmpR op_le (pe_callB call_len (by rfl) (T.fr "len" (by decide +kernel)) (by decide +kernel) (pa_cons (pe_call G_packed (hr.mono (by decide)) rfl (T.gl "packed" (by decide +kernel)) k_packed b_packed .nil passL (pa_cons (pe_op op_cat (pe_meth0 (pv 0) T.clL (T.meL "waiting" (by decide +kernel)) G_L_waiting (hr.mono (by decide)) b_L_waiting .nil passL) (pe_callTy call_list_of (by rfl) (T.fr "list" (by decide +kernel)) (by decide +kernel) (pa_cons (pv 1) pa_nil))) pa_nil)) pa_nil)) (pe_op op_sub (pe_fld (pv 0) rfl) (pe_op op_sub (pe_fld (pv 0) rfl) (pe_fld (pv 0) rfl))) (nomark _)))), ?_⟩
    refine ⟨_, rfl, g, dx, _, rfl, hg, lg_meth ht _ (by decide +kernel), ?_⟩
    unfold tNil
    refine ⟨g, d, c, n, nx, b, lr, e, sf, rv, rfl, ⟨ht, dx, hg⟩, hl, h1, h2, fun H1 p hp hp1 s1 => ?_⟩
    refine ⟨_, rfl, x, [], rfl, .inl (SqL.of (s1 _ _ hx)), fun y hy => ?_⟩
    refine ⟨p, y, _, _, rfl, rfl, at_new hy hp1, upd_same, (by rw [sizeLine_eq, List.length_drop]; simp; omega), fun z hz' => ?_⟩
    have s3 : Same H (upd (upd H1 y (.lst [])) z (.lst (rv.drop (sf - b) ++ []))) := (s1.trans (sameNew hy)).trans (sameNew hz')
    refine ⟨z, _, rs.drop (sf - b), rfl, SqL.of upd_same, ?_, (by have := pr_len hR; rw [List.length_drop]; omega), fun H4 p4 gv hp4 hp4' hG s4 _ => ?_⟩
    · have hR3 := hR.kp (Kp.same (fp := []) s3)
      rw [List.append_nil] at hR3 ⊢
      exact pr_drop _ hR3
    · have hg4 := s4 _ _ (s3 _ _ hg)
      refine ⟨_, _, rfl, .inl ⟨_, SqL.of hp4', rfl⟩, _, rfl, g, CL K, dx, _, _, rfl, hg4, T.clL, T.naL _ (by decide +kernel), lg_count, _, rfl, g, CL K, dx, _, _, rfl, hg4, T.clL, T.naL _ (by decide +kernel), lg_next, _, rfl, g, CL K, dx, _, _, rfl, hg4, T.clL, T.naL _ (by decide +kernel), lg_needed, _, _, rfl, rfl, _, _, rfl, rfl, _, _, rfl, rfl, ?_⟩
      have e := pr_len hG
      rw [e]
      exact q _ (s3.trans s4)
end
end K51
end L2
set_option Elab.async false
set_option linter.all false
set_option maxRecDepth 100000
set_option maxHeartbeats 4000000
/-! KD9: the log: read_on, write. -/
namespace L2
open PySem PySem.Spec PyProof.Rows
namespace K51
section
variable {P : Program} {w : World} {K : PySem.W.Frag} {mg : Str → Option Value} {base : Heap} {f : Addr} {fd : FuncData}
abbrev sReadOn : Stmt := logS 2
def spReadOn (K : PySem.W.Frag) : Sp := fun vs H Q _ => ∃ (g d : Addr) (c : Nat) (n : Int) (b nx fl : Nat) (lr : Addr) (tl : List (Str × V)) (k sh lo : Addr) (kept shown : Pl) (ls : List (Nat × Option Pt)) (l : V) (ps : List Pt) (nx2 e2 m2 : Nat), vs = [.ref g, .int fl] ∧ LgI K H g d c n b nx lr tl ∧ DkAt K H d k sh lo kept shown ls l ∧
  Sep g d k sh lo lr ∧ H lr = some (.lst []) ∧ 0 < c ∧ shown.length = c + 3 ∧ PlOk shown ∧ RM.Chain shown c nx fl b ps nx2 e2 m2 ∧ RM.Stop shown c nx2 e2 m2 ∧ (RM.recsOf ps).length ≤ 1000 ∧
  ∀ H' rv, LgI K H' g d c n b nx2 lr tl → DkAt K H' d k sh lo kept shown ls l → H' lr = some (.lst rv) → Recs H' rv (RM.recsOf ps) → Kp [g, lr] H H' → Q .non H'
theorem scReadOn : FnScope ["self", "floor", "epoch", "part"] ["self", "floor"] (defScope sReadOn) := ⟨rfl, rfl, rfl, by decide +kernel, rfl, by decide +kernel, by decide +kernel⟩
theorem ok_read_on (T : Tx K mg) (kA : Kn P w K mg base (L2.CX P w) 4 (mL K "part_at") ["self", "block"] (spPartAt K)) (kM : Kn P w K mg base (L2.CX P w) 1 (mL K "many") ["self"] (spMany K)) (F : FnP K "read_on" "Log.read_on" sReadOn f fd) : FnOk P w K mg base (L2.CX P w) 5 f fd ["self", "floor"] (spReadOn K) := by
  have sc := scReadOn
  obtain ⟨_, G_L_part_at, b_L_part_at, _⟩ := kA
  obtain ⟨_, G_L_many, b_L_many, _⟩ := kM
  refine F.ok sc (fun vs H Q E h => ?_) (fun cdv A outer s H vs Q E hr h => ?_)
  · obtain ⟨g, _, _, _, _, _, _, _, _, _, _, _, _, _, _, _, _, _, _, _, rfl, _⟩ := h
    rfl
  · obtain ⟨g, d, c, n, b, nx, fl, lr, tl, k, sh, lo, kept, shown, ls, l, ps, nx2, e2, m2, rfl, L, D, S, hl, hc, hS, hP, hch, hst, hz, q⟩ := h
    refine ⟨_, PSs.nox (pss_cons (ps_set (i := 2) sc.nd rfl (Or.inl rfl) (pv 1))
  (pss_cons (ps_set (i := 3) sc.nd rfl (Or.inl rfl) (pe_meth (pv 0) T.clL (T.meL "part_at" (by decide +kernel)) G_L_part_at (hr.mono (by decide)) b_L_part_at .nil passL (pa_cons (pe_fld (pv 0) rfl) pa_nil)))
  (pss_one (ps_while PassesOwn.never (PW.pt (pw_and (pt_cmp (pc_notN (pv 3))) (pw_and (pt_cmpR op_eq (pe_ix ix_tup (pv 3) pe_int (fun _ _ => rfl)) (pe_fld (pv 0) rfl) (nomark _)) (pw_and (pt_cmpR op_ge (pe_ix ix_tup (pv 3) pe_int (fun _ _ => rfl)) (pv 2) (nomark _)) (pw_and1 (pt_cmpR op_eq (pe_ix ix_tup (pv 3) pe_int (fun _ _ => rfl)) (pe_meth0 (pv 0) T.clL (T.meL "many" (by decide +kernel)) G_L_many (hr.mono (by decide)) b_L_many .nil passL) (nomark _)))))))
  (pss_cons (ps_set (i := 2) sc.nd rfl (Or.inl rfl) (pe_ix ix_tup (pv 3) pe_int (fun _ _ => rfl)))
  (pss_cons (ps_expr (pe_bm PySem.F.plainAttrs_list PySem.F.slot_list_extend PySem.F.type_list_extend mt_extend (pe_fld (pv 0) rfl) (pa_cons (pe_ix ix_tup (pv 3) pe_int (fun _ _ => rfl)) pa_nil)))
  (pss_cons (ps_fldaug (pv 0) pe_int in_add)
  (pss_one (ps_set (i := 3) sc.nd rfl (Or.inl rfl) (pe_meth (pv 0) T.clL (T.meL "part_at" (by decide +kernel)) G_L_part_at (hr.mono (by decide)) b_L_part_at .nil passL (pa_cons (pe_fld (pv 0) rfl) pa_nil))))))))))), ?_⟩
    obtain ⟨ht, dx, hg⟩ := L
    obtain ⟨S1, S2, S3, S4⟩ := S
    have ngl := ins_lst hg hl
    refine ⟨_, rfl, ?_⟩
    refine ⟨_, rfl, g, dx, _, rfl, hg, lg_meth ht _ (by decide +kernel), _, rfl, g, CL K, dx, _, _, rfl, hg, T.clL, T.naL _ (by decide +kernel), lg_next, ?_⟩
    refine ⟨g, d, c, n, b, nx, lr, tl, nx, k, sh, lo, kept, shown, ls, l, rfl, ⟨ht, dx, hg⟩, D, hc, hS, hP, fun H1 v hv s1 => ?_⟩
    refine ⟨fun m σ H' => ∃ (qs rest : List Pt) (ni ei : Nat) (rv : List V) (v : V), m = rest.length ∧ qs ++ rest = ps ∧ σ = [some (.ref g), some (.int fl), some (.int ei), some v] ∧ PartV H' v (RM.atB shown c ni) ∧ H' lr = some (.lst rv) ∧ Recs H' rv (RM.recsOf qs) ∧
        RM.Chain shown c ni ei (b + rv.length) rest nx2 e2 m2 ∧ H' g = some (.ins (CL K) dx (lgF d c n b ni lr tl)) ∧ Kp [g, lr] H H',
      ⟨ps.length, [], ps, nx, fl, [], v, rfl, rfl, rfl, hv, s1 _ _ hl, .nil, hch, s1 _ _ hg, Kp.same s1⟩, ?_⟩
    · rintro m σ H' ⟨qs, rest, ni, ei, rv, v, rfl, hqs, rfl, hv, hl', hR, hch', hg', kp⟩
      have keepD : ∀ H', Kp [g, lr] H H' → DkAt K H' d k sh lo kept shown ls l := by
        intro H' kp
        obtain ⟨⟨ddx, wr, hd⟩, ⟨kv, hk, _⟩, ⟨sv, hs, _⟩, ⟨lv, hlo, _⟩, _⟩ := id D
        refine D.kp kp ?_ ?_ ?_ ?_
        · simp [Ne.symm S1, ins_lst hd hl]
        · simp [Ne.symm S2, Ne.symm (ins_lst hg hk)]
        · simp [Ne.symm S3, Ne.symm (ins_lst hg hs)]
        · simp [Ne.symm S4, Ne.symm (ins_lst hg hlo)]
      have D' := keepD _ kp
      have hend : ni = nx2 → rest = [] → Q .non H' := fun z1 z2 => by
        subst z1
        subst z2
        rw [List.append_nil] at hqs
        subst hqs
        exact q H' rv ⟨ht, dx, hg'⟩ D' hl' hR kp
      cases ho : RM.atB shown c ni with
      | none =>
        rw [ho] at hv
        have hv' : v = .non := hv
        subst hv'
        cases hch' with
        | nil => exact ⟨_, rfl, _, rfl, iteF (hend rfl rfl)⟩
        | cons h1 => rw [ho] at h1; cases h1
      | some p =>
        rw [ho] at hv
        obtain ⟨t, pl, pvs, rfl, hT, hpl, hpR⟩ := hv
        refine ⟨_, rfl, _, rfl, iteT ?_⟩
        have i0 : atI [V.int p.num, .int p.ep, .int p.fst, .ref pl] 0 = some (.int p.num) := atI_nat (j := 0) rfl
        refine ⟨_, rfl, _, _, _, _, rfl, rfl, SqT.of hT, i0, _, rfl, g, CL K, dx, _, _, rfl, hg', T.clL, T.naL _ (by decide +kernel), lg_next, rfl, _, rfl, ?_⟩
        have i1 : atI [V.int p.num, .int p.ep, .int p.fst, .ref pl] 1 = some (.int p.ep) := atI_nat (j := 1) rfl
        have i2 : atI [V.int p.num, .int p.ep, .int p.fst, .ref pl] 2 = some (.int p.fst) := atI_nat (j := 2) rfl
        have i3 : atI [V.int p.num, .int p.ep, .int p.fst, .ref pl] 3 = some (.ref pl) := atI_nat (j := 3) rfl
        by_cases h1 : p.num = ni
        · refine ifT (decide_eq_true (by rw [h1])) ?_
          refine ⟨_, rfl, _, _, _, _, rfl, rfl, SqT.of hT, i1, _, rfl, _, _, rfl, rfl, _, rfl, ?_⟩
          by_cases h2 : ei ≤ p.ep
          · refine ifT (decide_eq_true (by omega)) ?_
            refine ⟨_, rfl, _, _, _, _, rfl, rfl, SqT.of hT, i2, _, rfl, g, dx, _, rfl, hg', lg_meth ht _ (by decide +kernel), ?_⟩
            unfold tNil
            refine ⟨g, d, c, n, b, ni, lr, tl, rv, rfl, ⟨ht, dx, hg'⟩, hl', rfl, _, rfl, ?_⟩
            by_cases h3 : p.fst = b + rv.length
            · refine ifT (decide_eq_true (by rw [h3]; congr 1)) ?_
              cases hch' with
              | nil => exact absurd ⟨h1, h2, h3⟩ (hst p ho)
              | @cons _ _ _ _ _ _ p' rest' ho' _ _ _ t' =>
                rw [ho] at ho'
                cases ho'
                have hrl := pr_len hR
                have hpl' := pr_len hpR
                have hrec : RM.recsOf (qs ++ [p]) = RM.recsOf qs ++ p.recs := by simp [RM.recsOf]
                have hz' : (RM.recsOf qs).length + p.recs.length ≤ 1000 := by
                  rw [← hqs] at hz
                  simp only [RM.recsOf, List.flatMap_append, List.flatMap_cons, List.length_append] at hz ⊢
                  omega
                refine ⟨fun σ2 H2 => ∃ (rv : List V) (v : V), σ2 = [some (.ref g), some (.int fl), some (.int p.ep), some v] ∧ PartV H2 v (RM.atB shown c (ni + 1)) ∧ H2 lr = some (.lst rv) ∧ Recs H2 rv (RM.recsOf (qs ++ [p])) ∧
                    RM.Chain shown c (ni + 1) p.ep (b + rv.length) rest' nx2 e2 m2 ∧ H2 g = some (.ins (CL K) dx (lgF d c n b ((ni + 1 : Nat) : Int) lr tl)) ∧ Kp [g, lr] H H2, ?_, ?_⟩
                · rintro σ2 H2 ⟨rv2, v2, rfl, a1, a2, a3, a4, a5, a6⟩
                  exact ⟨rest'.length, by simp, qs ++ [p], rest', ni + 1, p.ep, rv2, v2, rfl, by rw [← hqs]; simp, rfl, a1, a2, a3, a4, a5, a6⟩
                refine ⟨_, rfl, _, _, _, _, rfl, rfl, SqT.of hT, i1, ?_⟩
                refine ⟨_, rfl, g, CL K, dx, _, _, rfl, hg', T.clL, T.naL _ (by decide +kernel), lg_records, tyL hl', _, rfl, _, _, _, _, rfl, rfl, SqT.of hT, i3, lr, pl, rv, pvs, rfl, rfl, hl', hpl, (by rw [sizeLine_eq]; omega), ?_⟩
                have hg2 := at_put (x := .lst (rv ++ pvs)) ngl hg'
                refine ⟨_, rfl, g, CL K, dx, _, _, rfl, hg2, T.clL, T.naL _ (by decide +kernel), lg_next, _, _, rfl, rfl, dx, _, hg2, lg_len ht, ?_⟩
                rw [lg_put_next]
                have kp2 : Kp [lr] H' (upd H' lr (.lst (rv ++ pvs))) := Kp.put hl' (fun _ z => by cases z) (by simp)
                have kp3 : Kp [g] (upd H' lr (.lst (rv ++ pvs))) (upd (upd H' lr (.lst (rv ++ pvs))) g (.ins (CL K) dx (lgF d c n b ((ni : Int) + 1) lr tl))) := Kp.put hg2 (fun _ z => by cases z) (by simp)
                have kp23 : Kp [g, lr] H' _ := (kp2.mono (by simp)).trans (kp3.mono (by simp))
                have hg3 : upd (upd H' lr (.lst (rv ++ pvs))) g (.ins (CL K) dx (lgF d c n b ((ni : Int) + 1) lr tl)) g = some (.ins (CL K) dx (lgF d c n b ((ni + 1 : Nat) : Int) lr tl)) := upd_same
                have hl3 : upd (upd H' lr (.lst (rv ++ pvs))) g (.ins (CL K) dx (lgF d c n b ((ni : Int) + 1) lr tl)) lr = some (.lst (rv ++ pvs)) := at_put (Ne.symm ngl) upd_same
                have D3 := keepD _ (kp.trans kp23)
                refine ⟨_, rfl, g, dx, _, rfl, hg3, lg_meth ht _ (by decide +kernel), _, rfl, g, CL K, dx, _, _, rfl, hg3, T.clL, T.naL _ (by decide +kernel), lg_next, ?_⟩
                refine ⟨g, d, c, n, b, _, lr, tl, ni + 1, k, sh, lo, kept, shown, ls, l, rfl, ⟨ht, dx, hg3⟩, D3, hc, hS, hP, fun H4 v4 hv4 s4 => ?_⟩
                have kpa := kp23.trans (Kp.same (fp := [g, lr]) s4)
                refine ⟨rv ++ pvs, v4, rfl, hv4, s4 _ _ hl3, ?_, ?_, s4 _ _ hg3, kp.trans kpa⟩
                · rw [hrec]
                  exact Recs.kp kpa (pr_append hR hpR)
                · rw [List.length_append, hpl', ← Nat.add_assoc]
                  exact t'
            · refine ifF (decide_eq_false (by intro z; have := V.int.inj z; omega)) ?_
              cases hch' with
              | nil => exact hend rfl rfl
              | cons ho' _ _ z3 => rw [ho] at ho'; cases ho'; exact absurd z3 h3
          · refine ifF (decide_eq_false (by omega)) ?_
            cases hch' with
            | nil => exact hend rfl rfl
            | cons ho' _ z2 => rw [ho] at ho'; cases ho'; exact absurd z2 h2
        · refine ifF (decide_eq_false (by intro z; have := V.int.inj z; omega)) ?_
          cases hch' with
          | nil => exact hend rfl rfl
          | cons ho' z1 => rw [ho] at ho'; cases ho'; exact absurd z1 h1
abbrev sWriteL : Stmt := logS 10
def spWriteL (K : PySem.W.Frag) : Sp := fun vs H Q _ => ∃ (g d : Addr) (c : Nat) (n b : Int) (nx : Nat) (lr : Addr) (e s : Nat) (k sh lo : Addr) (kept shown : Pl) (ls : List (Nat × Option Pt)) (l l' : V) (x : Addr) (gv : List V) (grp : List (List V)), vs = [.ref g, .ref x] ∧ LgI K H g d c n b nx lr (tlS e s) ∧ DkAt K H d k sh lo kept shown ls l ∧
  g ≠ d ∧ x ≠ sh ∧ x ≠ lo ∧ 0 < c ∧ shown.length = c + 3 ∧ H x = some (.lst gv) ∧ Recs H gv grp ∧ (∀ r ∈ grp, RecOk r) ∧ grp.length ≤ 100 ∧ ls.length ≤ 1000 ∧ Dec l l' ∧
  ∀ H', LgI K H' g d c n b ((nx + 1 : Nat) : Int) lr (tlS e ((s + grp.length : Nat) : Int)) → DkAt K H' d k sh lo kept (shown.set (2 + nx % c) (some ⟨nx, e, s, grp⟩)) (ls ++ [(2 + nx % c, some ⟨nx, e, s, grp⟩)]) l' → Kp [g, d, sh, lo] H H' → Q .non H'
theorem scWriteL : FnScope ["self", "group", "block", "record"] ["self", "group"] (defScope sWriteL) := ⟨rfl, rfl, rfl, by decide +kernel, rfl, by decide +kernel, by decide +kernel⟩
theorem ok_writeL (T : Tx K mg) (kW : Kn P w K mg base (L2.CX P w) 4 (mD K "write") ["self", "place", "block"] (spWrite K)) (kO : Kn P w K mg base (L2.CX P w) 1 (mL K "place_of") ["self", "block"] (spPlace K)) (F : FnP K "write" "Log.write" sWriteL f fd) : FnOk P w K mg base (L2.CX P w) 5 f fd ["self", "group"] (spWriteL K) := by
  have sc := scWriteL
  obtain ⟨_, G_D_write, b_D_write, _⟩ := kW
  obtain ⟨_, G_L_place_of, b_L_place_of, _⟩ := kO
  obtain ⟨tM, hM⟩ := T.cM
  refine F.ok sc (fun vs H Q E h => ?_) (fun cdv A outer s H vs Q E hr h => ?_)
  · obtain ⟨g, _, _, _, _, _, _, _, _, _, _, _, _, _, _, _, _, _, _, _, rfl, _⟩ := h
    rfl
  · obtain ⟨g, d, c, n, b, nx, lr, e, sf, k, sh, lo, kept, shown, ls, l, l', x, gv, grp, rfl, L, D, hgd, nxs, nxl, hc, hS, hx, hR, hok, hgl, hls, hD, q⟩ := h
    refine ⟨_, PSs.nox (pss_cons (ps_set (i := 2) sc.nd rfl (Or.inl rfl) (pe_lst (pa_cons (pe_glob (v := .str "log") rfl hM ⟨_, rfl⟩) (pa_cons (pe_fld (pv 0) rfl) (pa_cons (pe_fld (pv 0) rfl) (pa_cons (pe_fld (pv 0) rfl) (pa_cons (pe_callB call_len (by rfl) (T.fr "len" (by decide +kernel)) (by decide +kernel) (pa_cons (pv 1) pa_nil)) pa_nil)))))))
  (pss_cons (ps_for PassesOwn.never rfl (pi_list (pv 1)) (pg_name (i := 3) sc.nd rfl (Or.inl rfl))
  (pss_one (ps_expr (pe_bm PySem.F.plainAttrs_list PySem.F.slot_list_extend PySem.F.type_list_extend mt_extend (pv 2) (pa_cons (pe_op op_cat (pe_lst (pa_cons (pe_callB call_len (by rfl) (T.fr "len" (by decide +kernel)) (by decide +kernel) (pa_cons (pv 3) pa_nil)) pa_nil)) (pe_callTy call_list_of (by rfl) (T.fr "list" (by decide +kernel)) (by decide +kernel) (pa_cons (pv 3) pa_nil))) pa_nil)))))
  (pss_cons (ps_expr (pe_meth (pe_fld (pv 0) rfl) T.clD (T.meD "write" (by decide +kernel)) G_D_write (hr.mono (by decide)) b_D_write .nil passL (pa_cons (pe_meth (pv 0) T.clL (T.meL "place_of" (by decide +kernel)) G_L_place_of (hr.mono (by decide)) b_L_place_of .nil passL (pa_cons (pe_fld (pv 0) rfl) pa_nil)) (pa_cons (pv 2) pa_nil))))
  (pss_cons (ps_fldaug (pv 0) pe_int in_add)
  (pss_one (ps_fldaug (pv 0) (pe_callB call_len (by rfl) (T.fr "len" (by decide +kernel)) (by decide +kernel) (pa_cons (pv 1) pa_nil)) in_add)))))), ?_⟩
    obtain ⟨ht, dx, hg⟩ := L
    have hgvl := pr_len hR
    have hz := enc_len grp hok
    refine ⟨_, rfl, g, CL K, dx, _, _, rfl, hg, T.clL, T.naL _ (by decide +kernel), lg_next, _, rfl, g, CL K, dx, _, _, rfl, hg, T.clL, T.naL _ (by decide +kernel), lg_epoch, _, rfl, g, CL K, dx, _, _, rfl, hg, T.clL, T.naL _ (by decide +kernel), lg_safe, _, rfl, _, _, rfl, .inl ⟨_, SqL.of hx, rfl⟩, (by show 5 ≤ sizeLine; decide), fun p hp => ?_⟩
    have s0 : Same H (upd H p (.lst [.str "log", .int nx, .int e, .int sf, .int gv.length])) := sameNew hp
    refine ⟨_, rfl, x, rfl, ⟨_, s0.seq (SqL.of hx)⟩, for_list (K := K) (a := x) (xs := gv) (fun i σ H' => ∃ v : Option V, σ = [some (.ref g), some (.ref x), some (.ref p), v] ∧ H' p = some (.lst ([.str "log", .int nx, .int e, .int sf, .int gv.length] ++ enc (grp.take i))) ∧ Same H H')
      ⟨none, rfl, upd_same, s0⟩ (fun i σ H' _ ⟨_, _, _, s5⟩ => s5.seq (SqL.of hx)) ?_ ?_⟩
    · rintro i y σ H' hy ⟨v, rfl, hP, hS'⟩
      obtain ⟨r, hr1, a, rfl, ha⟩ := pr_get hR hy
      have ha' := hS' _ _ ha
      refine ⟨_, rfl, tyL hP, _, rfl, _, _, rfl, .inr ⟨_, SqT.of ha', rfl⟩, (by show 1 ≤ sizeLine; decide), fun q1 hq1 => ?_⟩
      refine ⟨_, rfl, a, r, rfl, .inr (SqT.of (at_new hq1 ha')), fun q2 hq2 => ?_⟩
      refine ⟨q1, q2, _, _, rfl, rfl, at_new hq2 upd_same, upd_same, ?_, fun q3 hq3 => ?_⟩
      · have := (hok r (List.mem_of_getElem? hr1)).2
        rw [sizeLine_eq, List.length_singleton]; omega
      have hP3 := at_new (x := .lst ([V.int r.length] ++ r)) hq3 (at_new (x := .lst r) hq2 (at_new (x := .lst [V.int r.length]) hq1 hP))
      refine ⟨p, q3, _, _, rfl, rfl, hP3, upd_same, ?_, ?_⟩
      · have := (enc_drop hr1).2
        rw [sizeLine_eq]
        simp only [List.length_append, List.length_cons, List.length_nil]
        omega
      refine ⟨_, rfl, ?_, fun b o eb => ?_⟩
      · rw [upd_same, enc_take hr1, List.append_assoc]
        rfl
      · exact at_put (ne_of_none eb hp) (at_new hq3 (at_new hq2 (at_new hq1 (hS' b o eb))))
    · rintro σ H' ⟨v, rfl, hP, hS'⟩
      rw [hgvl, List.take_length] at hP
      have hP' : H' p = some (.lst (encB (some ⟨nx, e, sf, grp⟩))) := hP
      have hg' := hS' _ _ hg
      have D' := D.same hS'
      obtain ⟨ddx, wr, hd'⟩ := D'.ins
      obtain ⟨sv, hs, _⟩ := D.hs
      obtain ⟨lv, hlo, _⟩ := D.hl
      have hmod := Nat.mod_lt nx hc
      refine ⟨_, rfl, g, CL K, dx, _, _, rfl, hg', T.clL, T.naL _ (by decide +kernel), lg_disk, d, ddx, _, rfl, hd', dk_meth _ (by decide +kernel), ?_⟩
      refine ⟨_, rfl, g, dx, _, rfl, hg', lg_meth ht _ (by decide +kernel), _, rfl, g, CL K, dx, _, _, rfl, hg', T.clL, T.naL _ (by decide +kernel), lg_next, ?_⟩
      refine ⟨g, d, c, n, b, nx, lr, _, nx, rfl, ⟨ht, dx, hg'⟩, hc, ?_⟩
      refine ⟨_, rfl, d, k, sh, lo, p, kept, shown, ls, l, l', 2 + nx % c, some ⟨nx, e, sf, grp⟩, rfl, D', hP', fun z => (by rw [z, hs] at hp; cases hp), fun z => (by rw [z, hlo] at hp; cases hp), (by omega), hls, hD, fun H2 D2 k2 => ?_⟩
      have ngs := ins_lst hg hs
      have nglo := ins_lst hg hlo
      have hg2 := k2.keep _ _ hg' (by simp [hgd, ngs, nglo])
      refine ⟨_, rfl, g, CL K, dx, _, _, rfl, hg2, T.clL, T.naL _ (by decide +kernel), lg_next, _, _, rfl, rfl, dx, _, hg2, lg_len ht, ?_⟩
      rw [lg_put_next]
      have nxd := ins_lst hd' (hS' _ _ hx)
      have nxg := ins_lst hg hx
      have hx3 : upd H2 g (.ins (CL K) dx (lgF d c n b ((nx : Int) + 1) lr (tlS e sf))) x = some (.lst gv) := at_put (Ne.symm nxg) (k2.keep _ _ (hS' _ _ hx) (by simp [Ne.symm nxd, nxs, nxl]))
      have hg3 : upd H2 g (.ins (CL K) dx (lgF d c n b ((nx : Int) + 1) lr (tlS e sf))) g = some (.ins (CL K) dx (lgF d c n b ((nx : Int) + 1) lr (tlS e sf))) := upd_same
      refine ⟨_, rfl, g, CL K, dx, _, _, rfl, hg3, T.clL, T.naL _ (by decide +kernel), lg_safe, _, rfl, _, _, rfl, .inl ⟨_, SqL.of hx3, rfl⟩, _, _, rfl, rfl, dx, _, hg3, lg_len tl2, ?_⟩
      rw [lg_put_safe, upd_upd, hgvl]
      have k3 : Kp [g] H2 (upd H2 g (.ins (CL K) dx (lgF d c n b ((nx : Int) + 1) lr (tlS e ((sf : Int) + grp.length))))) := Kp.put hg2 (fun _ z => by cases z) (by simp)
      obtain ⟨_, hk2, _⟩ := D2.hk
      obtain ⟨_, hs2, _⟩ := D2.hs
      obtain ⟨_, hl2, _⟩ := D2.hl
      refine q _ ⟨tl2, dx, upd_same⟩ (D2.kp k3 (by simpa using Ne.symm hgd) (by simpa using Ne.symm (ins_lst hg2 hk2)) (by simpa using Ne.symm (ins_lst hg2 hs2)) (by simpa using Ne.symm (ins_lst hg2 hl2))) (((Kp.same (fp := [g, d, sh, lo]) hS').trans (k2.mono (by simp))).trans (k3.mono (by simp)))
end
end K51
end L2
set_option Elab.async false
set_option linter.all false
set_option maxRecDepth 100000
set_option maxHeartbeats 4000000
/-! KD10: the log: records, cut. -/
namespace L2
open PySem PySem.Spec PyProof.Rows
namespace K51
theorem ps_nox {X : Cx} {st : Stmt} {t : TS} (h : PS X.nox st t) : PS X st t := ⟨fun pins s σ H D I hw =>
  wpAny_mono (h.run pins s σ H D (I.wish _) hw) (fun _ _ q => q.unwish) fun _ _ z => False.elim z⟩
/-- an error of one field, let out -/
def ErrP (E : XK) (C : Addr) (fl : Str) (n : Int) (H : Hp) : Prop := ∀ H' dd, H dd = none → H' dd = some (.xd [(fl, .int n)]) → Same H H' → E (.ref C) (some dd) H'
theorem mkF_by {C : Addr} {fl : Str} {n : Int} {H : Hp} {E : XK} (hn : n.natAbs.log2 < 1920) (q : ErrP E C fl n H) :
    ([V.int n] : List V).length ≤ 1000 ∧ ∀ a, H a = none → spExI C fl [.ref a, .int n] (upd H a (exo a C none))
      (fun v H2 => v = .non ∧ ∃ (d : Addr) (fs : List (Str × V)), H2 a = some (exo a C (some d)) ∧ H2 d = some (exd d fs) ∧ H d = none ∧ E (.ref C) (some d) (upd (del H2 a) d (.xd fs))) (fun _ _ _ => False) := by
  refine ⟨by simp, fun a ha => ⟨a, n, rfl, hn, upd_same, fun dx h1 h2 => ⟨rfl, dx, [(fl, .int n)], upd_same, by rw [upd_ne h2, upd_same], ?_, ?_⟩⟩⟩
  · rw [upd_ne h2] at h1; exact h1
  · have h0 : H dx = none := by rw [upd_ne h2] at h1; exact h1
    refine q _ dx h0 upd_same fun b o e => ?_
    have n1 : b ≠ a := ne_of_none e ha
    have n2 : b ≠ dx := ne_of_none e h0
    rw [upd_ne n2, del_ne n1, upd_ne n1, upd_ne n2, upd_ne n1]
    exact e
section
variable {P : Program} {w : World} {K : PySem.W.Frag} {mg : Str → Option Value} {base : Heap} {f : Addr} {fd : FuncData}
abbrev sRecords : Stmt := logS 11
def spRecords (K : PySem.W.Frag) : Sp := fun vs H Q E => ∃ (g d : Addr) (c n nx : Int) (b : Nat) (lr : Addr) (tl : List (Str × V)) (rv : List V) (z : Int), vs = [.ref g, .int z] ∧ LgI K H g d c n b nx lr tl ∧ H lr = some (.lst rv) ∧
  ((∃ m : Nat, z = m ∧ b ≤ m ∧ m ≤ b + rv.length ∧ ∀ H' p, H p = none → H' p = some (.lst (rv.drop (m - b))) → Same H H' → Q (.ref p) H') ∨
   ((z < b ∨ (b : Int) + rv.length < z) ∧ z.natAbs.log2 < 1920 ∧ ErrP E (He.ga K "Gone") "number" z H))
theorem scRecords : FnScope ["self", "number"] ["self", "number"] (defScope sRecords) := ⟨rfl, rfl, rfl, by decide +kernel, rfl, by decide +kernel, by decide +kernel⟩
theorem ok_records (T : Tx K mg) (kM : Kn P w K mg base (L2.CX P w) 1 (mL K "many") ["self"] (spMany K)) (kI : Kn P w K mg base (L2.CX P w) 1 (He.ma K (He.ga K "Gone") "__init__") ["self", "number"] (spExI (He.ga K "Gone") "number")) (F : FnP K "records" "Log.records" sRecords f fd) : FnOk P w K mg base (L2.CX P w) 3 f fd ["self", "number"] (spRecords K) := by
  have sc := scRecords
  obtain ⟨_, G_L_many, b_L_many, _⟩ := kM
  obtain ⟨_, G_I, b_I, _⟩ := kI
  refine F.ok sc (fun vs H Q E h => ?_) (fun cdv A outer s H vs Q E hr h => ?_)
  · obtain ⟨g, _, _, _, _, _, _, _, _, _, rfl, _⟩ := h
    rfl
  · obtain ⟨g, d, c, n, nx, b, lr, tl, rv, z, rfl, ⟨ht, dx, hg⟩, hl, q⟩ := h
    refine ⟨_, (pss_cons (ps_if (pt_not (pt_chain op_le op_le (pe_fld (pv 0) rfl) (pv 1) (pe_meth0 (pv 0) T.clL (T.meL "many" (by decide +kernel)) G_L_many (hr.mono (by decide)) b_L_many .nil passL)))
  (pss_one (ps_raise (W := fun cls d _ H => E cls d H) rfl (takes_of rfl rfl rfl rfl) (pmk_fld PySem.OEG.baseL T.eG.ox T.eG.iC T.eG.tI G_I (hr.mono (by decide)) b_I passL (by rfl) (T.gl "Gone" (by decide +kernel)) (pa_cons (pv 1) pa_nil))))
  pss_nil)
  (pss_one (ps_ret (pe_slice sl_list (pe_fld (pv 0) rfl) (po_some (pe_op op_sub (pv 1) (pe_fld (pv 0) rfl))) po_none)))), ?_⟩
    refine ⟨_, rfl, g, CL K, dx, _, _, rfl, hg, T.clL, T.naL _ (by decide +kernel), lg_begin, _, rfl, _, _, rfl, rfl, _, rfl, ?_⟩
    have hlate : ∀ R : Prop, (∀ H' , R) → R := fun _ h => h H
    rcases q with ⟨m, rfl, h1, h2, q⟩ | ⟨hz, hn, q⟩
    · refine ifT (decide_eq_true (by omega)) ?_
      refine ⟨_, rfl, g, dx, _, rfl, hg, lg_meth ht _ (by decide +kernel), ?_⟩
      unfold tNil
      refine ⟨g, d, c, n, b, nx, lr, tl, rv, rfl, ⟨ht, dx, hg⟩, hl, _, _, rfl, rfl, _, rfl, iteNS (by omega) ?_⟩
      refine ⟨_, rfl, g, CL K, dx, _, _, rfl, hg, T.clL, T.naL _ (by decide +kernel), lg_records, _, rfl, _, rfl, g, CL K, dx, _, _, rfl, hg, T.clL, T.naL _ (by decide +kernel), lg_begin, _, _, rfl, rfl, _, rfl, lr, _, rfl, SqL.of hl, fun p hp => ?_⟩
      refine q _ p hp ?_ (sameNew hp)
      rw [upd_same, show (m : Int) - (b : Int) = ((m - b : Nat) : Int) by omega, cut_n _ _ (by omega)]
    · by_cases h1 : (b : Int) ≤ z
      · refine ifT (decide_eq_true h1) ?_
        refine ⟨_, rfl, g, dx, _, rfl, hg, lg_meth ht _ (by decide +kernel), ?_⟩
        unfold tNil
        refine ⟨g, d, c, n, b, nx, lr, tl, rv, rfl, ⟨ht, dx, hg⟩, hl, _, _, rfl, rfl, _, rfl, ?_⟩
        refine ifT (by rw [decide_eq_false (by omega)]; rfl) ?_
        exact ⟨_, rfl, mkF_by hn q⟩
      · refine ifF (decide_eq_false h1) ⟨false, rfl, ?_⟩
        refine iteT ?_
        exact ⟨_, rfl, mkF_by hn q⟩
abbrev sCut : Stmt := logS 16
def spCut (K : PySem.W.Frag) : Sp := fun vs H Q E => ∃ (g d : Addr) (c n nx : Int) (b : Nat) (lr : Addr) (tl : List (Str × V)) (rv : List V) (z r : Int), vs = [.ref g, .int z, .int r] ∧ LgI K H g d c n b nx lr tl ∧ H lr = some (.lst rv) ∧
  ((∃ m : Nat, r = m ∧ n ≤ z ∧ z ≤ nx ∧ b ≤ m ∧ m ≤ b + rv.length ∧ ∀ H' p, H p = none → H' p = some (.lst (rv.drop (m - b))) → LgI K H' g d c z m nx p tl → Kp [g] H H' → Q .non H') ∨
   ((z < n ∨ nx < z) ∧ z.natAbs.log2 < 1920 ∧ ErrP E (He.ga K "NoCut") "block" z H))
theorem scCut : FnScope ["self", "block", "record"] ["self", "block", "record"] (defScope sCut) := ⟨rfl, rfl, rfl, by decide +kernel, rfl, by decide +kernel, by decide +kernel⟩
theorem ok_cut (T : Tx K mg) (kI : Kn P w K mg base (L2.CX P w) 1 (He.ma K (He.ga K "NoCut") "__init__") ["self", "block"] (spExI (He.ga K "NoCut") "block")) (F : FnP K "cut" "Log.cut" sCut f fd) : FnOk P w K mg base (L2.CX P w) 3 f fd ["self", "block", "record"] (spCut K) := by
  have sc := scCut
  obtain ⟨_, G_I, b_I, _⟩ := kI
  refine F.ok sc (fun vs H Q E h => ?_) (fun cdv A outer s H vs Q E hr h => ?_)
  · obtain ⟨g, _, _, _, _, _, _, _, _, _, _, rfl, _⟩ := h
    rfl
  · obtain ⟨g, d, c, n, nx, b, lr, tl, rv, z, r, rfl, ⟨ht, dx, hg⟩, hl, q⟩ := h
    refine ⟨_, (pss_cons (ps_if (pt_not (pt_chain op_le op_le (pe_fld (pv 0) rfl) (pv 1) (pe_fld (pv 0) rfl)))
  (pss_one (ps_raise (W := fun cls d _ H => E cls d H) rfl (takes_of rfl rfl rfl rfl) (pmk_fld PySem.OEG.baseV T.eN.ox T.eN.iC T.eN.tI G_I (hr.mono (by decide)) b_I passL (by rfl) (T.gl "NoCut" (by decide +kernel)) (pa_cons (pv 1) pa_nil))))
  pss_nil)
  (pss_cons (ps_fld (pv 0) (pe_slice sl_list (pe_fld (pv 0) rfl) (po_some (pe_op op_sub (pv 2) (pe_fld (pv 0) rfl))) po_none) rfl)
  (pss_cons (ps_fld (pv 0) (pv 1) rfl)
  (pss_one (ps_fld (pv 0) (pv 2) rfl))))), ?_⟩
    refine ⟨_, rfl, g, CL K, dx, _, _, rfl, hg, T.clL, T.naL _ (by decide +kernel), lg_needed, _, rfl, _, _, rfl, rfl, _, rfl, ?_⟩
    rcases q with ⟨m, rfl, h1, h2, h3, h4, q⟩ | ⟨hz, hn, q⟩
    · refine ifT (decide_eq_true h1) ?_
      refine ⟨_, rfl, g, CL K, dx, _, _, rfl, hg, T.clL, T.naL _ (by decide +kernel), lg_next, _, _, rfl, rfl, _, rfl, iteNS h2 ?_⟩
      refine ⟨_, rfl, g, CL K, dx, _, _, rfl, hg, T.clL, T.naL _ (by decide +kernel), lg_records, _, rfl, _, rfl, g, CL K, dx, _, _, rfl, hg, T.clL, T.naL _ (by decide +kernel), lg_begin, _, _, rfl, rfl, _, rfl, lr, _, rfl, SqL.of hl, fun p hp => ?_⟩
      have ecut : cutV rv (some ((m : Int) - (b : Int))) none = rv.drop (m - b) := by rw [show (m : Int) - (b : Int) = ((m - b : Nat) : Int) by omega, cut_n _ _ (by omega)]
      rw [ecut]
      have hg1 := at_new (x := .lst (rv.drop (m - b))) hp hg
      have npg : p ≠ g := Ne.symm (ne_of_none hg hp)
      refine ⟨_, rfl, g, CL K, dx, _, rfl, hg1, T.clL, T.naL _ (by decide +kernel), lg_len ht, ?_⟩
      rw [lg_put_records]
      refine ⟨_, rfl, _, rfl, g, CL K, dx, _, rfl, upd_same, T.clL, T.naL _ (by decide +kernel), lg_len ht, ?_⟩
      rw [lg_put_needed, upd_upd]
      refine ⟨_, rfl, _, rfl, g, CL K, dx, _, rfl, upd_same, T.clL, T.naL _ (by decide +kernel), lg_len ht, ?_⟩
      rw [lg_put_begin, upd_upd]
      exact q _ p hp (at_put npg upd_same) ⟨ht, dx, upd_same⟩ ((Kp.new hp).trans (Kp.put hg1 (fun _ z => by cases z) (by simp)))
    · by_cases h1 : n ≤ z
      · refine ifT (decide_eq_true h1) ?_
        refine ⟨_, rfl, g, CL K, dx, _, _, rfl, hg, T.clL, T.naL _ (by decide +kernel), lg_next, _, _, rfl, rfl, _, rfl, ?_⟩
        refine ifT (by rw [decide_eq_false (by omega)]; rfl) ?_
        exact ⟨_, rfl, mkF_by hn q⟩
      · refine ifF (decide_eq_false h1) ⟨false, rfl, ?_⟩
        refine iteT ?_
        exact ⟨_, rfl, mkF_by hn q⟩
end
end K51
end L2
set_option Elab.async false
set_option linter.all false
set_option maxRecDepth 100000
set_option maxHeartbeats 4000000
/-! KD11: the log: flush. -/
namespace L2
open PySem PySem.Spec PyProof.Rows
namespace K51
theorem ErrP.same {E : XK} {C : Addr} {fl : Str} {n : Int} {H H1 : Hp} (h : ErrP E C fl n H) (s : Same H H1) : ErrP E C fl n H1 := fun H' dd h1 h2 h3 =>
  h H' dd (by
    cases e : H dd with
    | none => rfl
    | some o => rw [s _ _ e] at h1; cases h1) h2 (s.trans h3)
/-- the loose writes of parts -/
def lsOf (c : Nat) (qs : List Pt) : List (Nat × Option Pt) := qs.map fun p => (2 + p.num % c, some p)
theorem put_snoc (S : Pl) (c : Nat) (qs : List Pt) (p : Pt) : RM.put S c (qs ++ [p]) = (RM.put S c qs).set (2 + p.num % c) (some p) := by
  rw [RM.put_append]; rfl
theorem small_int {n : Nat} (h : n < 2 ^ 64) : (n : Int).natAbs.log2 < 1920 := by
  rw [Int.natAbs_natCast]
  by_cases h0 : n = 0
  · subst h0; decide
  · have := (Nat.log2_lt h0).mpr h
    omega
section
variable {P : Program} {w : World} {K : PySem.W.Frag} {mg : Str → Option Value} {base : Heap} {f : Addr} {fd : FuncData}
abbrev sFlush : Stmt := logS 9
/-- what a flush meets -/
structure FlW (K : PySem.W.Frag) (H : Hp) (g d : Addr) (c n nx b : Nat) (lr : Addr) (e s : Nat) (k sh lo : Addr) (kept shown : Pl) (l : V) (rv : List V) (rs : List (List V)) : Prop where
  L : LgI K H g d c n b nx lr (tlS e s)
  D : DkAt K H d k sh lo kept shown [] l
  gd : g ≠ d
  hl : H lr = some (.lst rv)
  R : Recs H rv rs
  b1 : b ≤ s
  b2 : s ≤ b + rv.length
  z : rv.length ≤ 100
  hc : 0 < c
  hcz : c ≤ 100
  len : shown.length = c + 3
  ok : ∀ r ∈ rs, RecOk r
  n1 : n ≤ nx
def spFlush (K : PySem.W.Frag) : Sp := fun vs H Q E => ∃ (g d : Addr) (c n nx b : Nat) (lr : Addr) (e s : Nat) (k sh lo : Addr) (kept shown : Pl) (l : V) (rv : List V) (rs : List (List V)) (gs : List (List (List V))), vs = [.ref g] ∧ FlW K H g d c n nx b lr e s k sh lo kept shown l rv rs ∧ gs = pk8 (rs.drop (s - b)) ∧
  ((gs = [] ∧ ∀ H', Same H H' → Q .non H') ∨
   (gs ≠ [] ∧ n + c < nx + gs.length ∧ ErrP E (He.ga K "Full") "count" c H) ∨
   (gs ≠ [] ∧ nx + gs.length ≤ n + c ∧ l = .non ∧ ∀ H' k' lo', H k' = none → H lo' = none → LgI K H' g d c n b ((nx + gs.length : Nat) : Int) lr (tlS e ((s + gs.flatten.length : Nat) : Int)) →
      DkAt K H' d k' sh lo' (RM.put shown c (RM.parts nx e s gs)) (RM.put shown c (RM.parts nx e s gs)) [] .non → Kp [g, d, sh, lo] H H' → Q .non H') ∨
   (gs ≠ [] ∧ nx + gs.length ≤ n + c ∧ l = .int gs.length ∧ ∀ H', DkAt K H' d k sh lo kept (RM.put shown c (RM.parts nx e s gs)) (lsOf c (RM.parts nx e s gs)) (.int 0) → Kp [g, d, sh, lo] H H' → E (.ref (He.ga K "Stopped")) none H'))
theorem scFlush : FnScope ["self", "groups", "group"] ["self"] (defScope sFlush) := ⟨rfl, rfl, rfl, by decide +kernel, rfl, by decide +kernel, by decide +kernel⟩
theorem ok_flush (T : Tx K mg) (kK : Kn P w K mg base (L2.CX P w) 1 (He.ga K "packed") ["records"] (spPacked K)) (kWt : Kn P w K mg base (L2.CX P w) 1 (mL K "waiting") ["self"] (spWaiting K))
    (kF : Kn P w K mg base (L2.CX P w) 2 (mL K "fits") ["self", "records"] (spFits K)) (kW : Kn P w K mg base (L2.CX P w) 5 (mL K "write") ["self", "group"] (spWriteL K)) (kB : Kn P w K mg base (L2.CX P w) 4 (mD K "barrier") ["self"] (spBarrier K))
    (kI : Kn P w K mg base (L2.CX P w) 1 (He.ma K (He.ga K "Full") "__init__") ["self", "count"] (spExI (He.ga K "Full") "count")) (F : FnP K "flush" "Log.flush" sFlush f fd) : FnOk P w K mg base (L2.CX P w) 6 f fd ["self"] (spFlush K) := by
  have sc := scFlush
  obtain ⟨_, G_packed, b_packed, k_packed⟩ := kK
  obtain ⟨_, G_L_waiting, b_L_waiting, _⟩ := kWt
  obtain ⟨_, G_L_fits, b_L_fits, _⟩ := kF
  obtain ⟨_, G_L_write, b_L_write, _⟩ := kW
  obtain ⟨_, G_D_barrier, b_D_barrier, _⟩ := kB
  obtain ⟨_, G_I, b_I, _⟩ := kI
  refine F.ok sc (fun vs H Q E h => ?_) (fun cdv A outer s H vs Q E hr h => ?_)
  · obtain ⟨g, _, _, _, _, _, _, _, _, _, _, _, _, _, _, _, _, _, rfl, _⟩ := h
    rfl
  · obtain ⟨g, d, c, n, nx, b, lr, e, sf, k, sh, lo, kept, shown, l, rv, rs, gs, rfl, ⟨L, D, hgd, hl, hR, h1, h2, hz, hc, hcz, hS, hok, hn1⟩, hgs, q⟩ := h
    obtain ⟨ht, dx, hg⟩ := L
    refine ⟨_, (pss_cons (ps_set (i := 1) sc.nd rfl (Or.inl rfl) (pe_call G_packed (hr.mono (by decide)) rfl (T.gl "packed" (by decide +kernel)) k_packed b_packed .nil passL (pa_cons (pe_meth0 (pv 0) T.clL (T.meL "waiting" (by decide +kernel)) G_L_waiting (hr.mono (by decide)) b_L_waiting .nil passL) pa_nil)))
  (pss_cons (ps_if (pt_cmpR op_eq (pe_callB call_len (by rfl) (T.fr "len" (by decide +kernel)) (by decide +kernel) (pa_cons (pv 1) pa_nil)) pe_int (nomark _))
  (pss_one ps_retN)
  pss_nil)
  (pss_cons (ps_if (pt_not (pt_val (pe_meth (pv 0) T.clL (T.meL "fits" (by decide +kernel)) G_L_fits (hr.mono (by decide)) b_L_fits .nil passL (pa_cons (pe_lst pa_nil) pa_nil))))
  (pss_one (ps_raise (W := fun cls d _ H => E cls d H) rfl (takes_of rfl rfl rfl rfl) (pmk_fld PySem.OEG.baseO T.eF.ox T.eF.iC T.eF.tI G_I (hr.mono (by decide)) b_I passL (by rfl) (T.gl "Full" (by decide +kernel)) (pa_cons (pe_fldC K rfl (pv 0) (by rfl)) pa_nil))))
  pss_nil)
  (pss_cons (ps_nox (ps_for PassesOwn.never rfl (pi_list (pv 1)) (pg_name (i := 2) sc.nd rfl (Or.inl rfl))
  (pss_one (ps_expr (pe_meth (pv 0) T.clL (T.meL "write" (by decide +kernel)) G_L_write (hr.mono (by decide)) b_L_write .nil passL (pa_cons (pv 2) pa_nil))))))
  (pss_one (ps_expr (pe_meth0 (E := E) (pe_fld (pv 0) rfl) T.clD (T.meD "barrier" (by decide +kernel)) G_D_barrier (hr.mono (by decide)) b_D_barrier .nil (passes_call (W := fun cls d _ H => E cls d H) (takes_of rfl rfl rfl rfl) fun _ _ _ _ h => h)))))))), ?_⟩
    refine ⟨_, rfl, g, dx, _, rfl, hg, lg_meth ht _ (by decide +kernel), ?_⟩
    unfold tNil
    refine ⟨g, d, c, n, nx, b, lr, e, sf, rv, rfl, ⟨ht, dx, hg⟩, hl, h1, h2, fun H1 p hp hp1 s1 => ?_⟩
    have hrl := pr_len hR
    refine ⟨p, _, rs.drop (sf - b), rfl, SqL.of hp1, pr_drop _ (hR.kp (Kp.same (fp := []) s1)), (by rw [List.length_drop]; omega), fun H2 pg gv hpg hpg2 hG s2 hfr => ?_⟩
    rw [← hgs] at hG
    have s12 := s1.trans s2
    have hg2 := s12 _ _ hg
    have hgl := pr_len hG
    obtain ⟨pf1, pf2, pf3⟩ := RM.pack_facts List.length (rs.drop (sf - b))
    have hgsl : gs.length ≤ 100 := by rw [hgs]; refine Nat.le_trans pf3 ?_; rw [List.length_drop]; omega
    refine ⟨_, rfl, _, _, rfl, .inl ⟨_, SqL.of hpg2, rfl⟩, rfl, _, rfl, ?_⟩
    by_cases hg0 : gs = []
    · refine ifT (decide_eq_true (by rw [hgl, hg0]; rfl)) ?_
      rcases q with ⟨_, q⟩ | ⟨z, _⟩ | ⟨z, _⟩ | ⟨z, _⟩
      · exact q _ s12
      all_goals exact absurd hg0 z
    · have hgp : 0 < gs.length := List.length_pos_iff.mpr hg0
      refine ifF (decide_eq_false (by intro z; have := V.int.inj z; omega)) ?_
      refine ⟨_, rfl, g, dx, _, rfl, hg2, lg_meth ht _ (by decide +kernel), Nat.zero_le _, fun x hx => ?_⟩
      have s13 := s12.trans (sameNew (o := .lst []) hx)
      refine ⟨g, d, c, n, nx, b, lr, e, sf, rv, rs, x, rfl, ⟨ht, dx, s13 _ _ hg⟩, s13 _ _ hl, hR.kp (Kp.same (fp := []) s13), h1, h2, (by omega), upd_same, fun H3 s3 => ?_⟩
      rw [← hgs]
      have s14 := s13.trans s3
      have hg3 := s14 _ _ hg
      by_cases hfit : nx + gs.length ≤ n + c
      · refine ⟨_, rfl, ifF (by rw [decide_eq_true (by omega)]; rfl) ?_⟩
        have hpg3 := s3 _ _ (at_new (x := .lst []) hx hpg2)
        have hG3 := (hG.same (sameNew (o := .lst []) hx)).same s3
        have D3 := D.same s14
        obtain ⟨_, hs, _⟩ := D.hs
        obtain ⟨_, hlo, _⟩ := D.hl
        obtain ⟨ddx, wr, hd⟩ := D.ins
        have npg : pg ≠ g ∧ pg ≠ d ∧ pg ≠ sh ∧ pg ≠ lo := ⟨fun z => (by rw [z, s1 _ _ hg] at hpg; cases hpg), fun z => (by rw [z, s1 _ _ hd] at hpg; cases hpg), fun z => (by rw [z, s1 _ _ hs] at hpg; cases hpg), fun z => (by rw [z, s1 _ _ hlo] at hpg; cases hpg)⟩
        have hflat : gs.flatten = rs.drop (sf - b) := by rw [hgs]; exact pf1
        have key : ∃ lf : Nat → V, lf 0 = l ∧ (∀ i, i < gs.length → Dec (lf i) (lf (i + 1))) ∧ (∀ H', LgI K H' g d c n b ((nx + gs.length : Nat) : Int) lr (tlS e ((sf + gs.flatten.length : Nat) : Int)) →
            DkAt K H' d k sh lo kept (RM.put shown c (RM.parts nx e sf gs)) (lsOf c (RM.parts nx e sf gs)) (lf gs.length) → Kp [g, d, sh, lo] H H' → spBarrier K [.ref d] H' (fun _ H'' => Q .non H'') E) := by
          rcases q with ⟨z, _⟩ | ⟨_, z, _⟩ | ⟨_, _, rfl, q⟩ | ⟨_, _, rfl, q⟩
          · exact absurd z hg0
          · omega
          · refine ⟨fun _ => .non, rfl, fun _ _ => .inl ⟨rfl, rfl⟩, fun H' L' D' k' => ⟨d, k, sh, lo, kept, _, _, .non, rfl, D', .inl ⟨.non, .inl ⟨rfl, rfl⟩, fun H5 k5 lo5 f1 f2 D5 kp5 => ?_⟩⟩⟩
            have fr : ∀ z, H' z = none → H z = none := fun z hz0 => by
              obtain ⟨_, dxx, hgg⟩ := L'
              obtain ⟨dd2, ww, hdd⟩ := D'.ins
              obtain ⟨_, hss, _⟩ := D'.hs
              obtain ⟨_, hll, _⟩ := D'.hl
              have m1 : z ≠ g := fun y => by rw [y, hgg] at hz0; cases hz0
              have m2 : z ≠ d := fun y => by rw [y, hdd] at hz0; cases hz0
              have m3 : z ≠ sh := fun y => by rw [y, hss] at hz0; cases hz0
              have m4 : z ≠ lo := fun y => by rw [y, hll] at hz0; cases hz0
              exact k'.free hz0 (by simp [m1, m2, m3, m4])
            exact q _ k5 lo5 (fr _ f1) (fr _ f2) (L'.kp kp5 (by simpa using hgd)) D5 (k'.trans (kp5.mono (by simp)))
          · refine ⟨fun i => .int ((gs.length - i : Nat) : Int), rfl, fun i hi => .inr ⟨gs.length - (i + 1), ?_, rfl⟩, fun H' L' D' k' => ?_⟩
            · show V.int ((gs.length - i : Nat) : Int) = V.int (((gs.length - (i + 1) : Nat) : Int) + 1)
              congr 1; omega
            · have D2 : DkAt K H' d k sh lo kept (RM.put shown c (RM.parts nx e sf gs)) (lsOf c (RM.parts nx e sf gs)) (V.int ((gs.length - gs.length : Nat) : Int)) := D'
              rw [Nat.sub_self] at D2
              exact ⟨d, k, sh, lo, kept, _, _, _, rfl, D2, .inr ⟨rfl, q H' D2 k'⟩⟩
        obtain ⟨lf, lf0, lfd, hfin⟩ := key
        refine ⟨_, rfl, pg, rfl, ⟨_, SqL.of hpg3⟩, for_list (K := K) (a := pg) (xs := gv) (fun i σ H' => ∃ v : Option V, σ = [some (.ref g), some (.ref pg), v] ∧ LgI K H' g d c n b ((nx + i : Nat) : Int) lr (tlS e ((sf + (gs.take i).flatten.length : Nat) : Int)) ∧
            DkAt K H' d k sh lo kept (RM.put shown c ((RM.parts nx e sf gs).take i)) (lsOf c ((RM.parts nx e sf gs).take i)) (lf i) ∧ Kp [g, d, sh, lo] H3 H')
          ⟨none, rfl, ⟨ht, dx, hg3⟩, by rw [lf0]; exact D3, Kp.refl _⟩ (fun i σ H' _ ⟨_, _, _, _, k5⟩ => SqL.of (k5.keep _ _ hpg3 (by simp [npg.1, npg.2.1, npg.2.2.1, npg.2.2.2]))) ?_ ?_⟩
        · rintro i y σ H' hy ⟨v, rfl, L', D', k'⟩
          obtain ⟨grp, hgr, a, vs, rfl, ha, hRa⟩ := pr_get hG3 hy
          obtain ⟨a', ea, nap, hna⟩ := hfr _ (List.mem_of_getElem? hy)
          cases ea
          have hil : i < gs.length := (List.getElem?_eq_some_iff.mp hgr).1
          have nax : a ≠ g ∧ a ≠ d ∧ a ≠ sh ∧ a ≠ lo := ⟨fun z => (by rw [z, s1 _ _ hg] at hna; cases hna), fun z => (by rw [z, s1 _ _ hd] at hna; cases hna), fun z => (by rw [z, s1 _ _ hs] at hna; cases hna), fun z => (by rw [z, s1 _ _ hlo] at hna; cases hna)⟩
          have ha' := k'.keep _ _ ha (by simp [nax.1, nax.2.1, nax.2.2.1, nax.2.2.2])
          obtain ⟨ht', dx', hg'⟩ := L'
          have hgmem : ∀ r ∈ grp, r ∈ rs := fun r hr => (List.drop_subset _ _) (hflat ▸ List.mem_flatten.mpr ⟨grp, List.mem_of_getElem? hgr, hr⟩)
          have hgle : grp.length ≤ 100 := by
            have e1 : grp.length ≤ gs.flatten.length := List.Sublist.length_le (List.sublist_flatten_of_mem (List.mem_of_getElem? hgr))
            rw [hflat, List.length_drop] at e1
            omega
          obtain ⟨p, hp⟩ : ∃ p, (RM.parts nx e sf gs)[i]? = some p := ⟨_, List.getElem?_eq_getElem (by rw [RM.parts_length]; exact hil)⟩
          obtain ⟨p1, p2, p3, p4⟩ := RM.parts_get e gs nx sf i p hp
          have ep : p = ⟨nx + i, e, sf + (gs.take i).flatten.length, grp⟩ := by
            obtain ⟨q1, q2, q3, q4⟩ := p
            rw [hgr] at p4
            simp only at p1 p2 p3 p4
            subst p1; subst p2; subst p3
            cases p4; rfl
          refine ⟨_, rfl, g, dx', _, rfl, hg', lg_meth ht' _ (by decide +kernel), _, rfl, ?_⟩
          refine ⟨g, d, c, n, b, nx + i, lr, e, sf + (gs.take i).flatten.length, k, sh, lo, kept, _, _, lf i, lf (i + 1), a, vs, grp, rfl, ⟨ht', dx', hg'⟩, D', hgd, nax.2.2.1, nax.2.2.2, hc, by rw [RM.put_length]; exact hS, ha', hRa.kp k', fun r hr => hok r (hgmem r hr), hgle, ?_, lfd i hil, fun H5 L5 D5 k5 => ?_⟩
          · unfold lsOf
            rw [List.length_map, List.length_take, RM.parts_length]
            omega
          · have e1 : (gs.take (i + 1)).flatten.length = (gs.take i).flatten.length + grp.length := by
              rw [List.take_add_one, hgr]; simp
            have e2 : (RM.parts nx e sf gs).take (i + 1) = (RM.parts nx e sf gs).take i ++ [⟨nx + i, e, sf + (gs.take i).flatten.length, grp⟩] := by
              rw [List.take_add_one, hp, ep]; rfl
            refine ⟨_, rfl, ?_, ?_, k'.trans k5⟩
            · rw [e1, ← Nat.add_assoc, ← Nat.add_assoc]; exact L5
            · rw [e2, put_snoc]
              unfold lsOf
              rw [List.map_append]
              exact D5
        · rintro σ H' ⟨v, rfl, L', D', k'⟩
          rw [hgl] at L' D'
          rw [List.take_length] at L'
          rw [show (RM.parts nx e sf gs).take gs.length = RM.parts nx e sf gs by rw [← RM.parts_length e gs nx sf, List.take_length]] at D'
          obtain ⟨ht', dx', hg'⟩ := L'
          obtain ⟨ddx', wr', hd'⟩ := D'.ins
          refine ⟨_, rfl, g, CL K, dx', _, _, rfl, hg', T.clL, T.naL _ (by decide +kernel), lg_disk, d, ddx', _, rfl, hd', dk_meth _ (by decide +kernel), ?_⟩
          exact hfin H' ⟨ht', dx', hg'⟩ D' ((Kp.same (fp := [g, d, sh, lo]) s14).trans k')
      · refine ⟨_, rfl, ifT (by rw [decide_eq_false (by omega)]; rfl) ?_⟩
        refine ⟨_, rfl, g, CL K, dx, _, _, rfl, hg3, T.clL, T.naL _ (by decide +kernel), lg_count, mkF_by (small_int (by omega)) ?_⟩
        rcases q with ⟨z, _⟩ | ⟨_, _, q⟩ | ⟨_, z, _⟩ | ⟨_, z, _⟩
        · exact absurd z hg0
        · exact q.same s14
        · exact absurd z hfit
        · exact absurd z hfit
end
end K51
end L2
set_option Elab.async false
set_option linter.all false
set_option maxRecDepth 100000
set_option maxHeartbeats 4000000
/-! KD12: a new log. -/
namespace L2
open PySem PySem.Spec PyProof.Rows
namespace K51
def epsN (obs : List (Option Pt)) : List Int := obs.filterMap (Option.map fun p => (p.ep : Int))
theorem epsN_nat {obs : List (Option Pt)} {m : Int} (h : m ∈ epsN obs) : ∃ k : Nat, m = k := by
  obtain ⟨o, _, e⟩ := List.mem_filterMap.mp h
  cases o with
  | none => cases e
  | some p => exact ⟨p.ep, (Option.some.inj e).symm⟩
theorem epsN_mem {obs : List (Option Pt)} {p : Pt} (h : some p ∈ obs) : (p.ep : Int) ∈ epsN obs := List.mem_filterMap.mpr ⟨some p, h, rfl⟩
section
variable {P : Program} {w : World} {K : PySem.W.Frag} {mg : Str → Option Value} {base : Heap} {f : Addr} {fd : FuncData}
abbrev sLogI : Stmt := logS 0
def spLogI (K : PySem.W.Frag) : Sp := fun vs H Q _ => ∃ (g d dx : Addr) (c bk rc fl : Nat) (k sh lo : Addr) (kept shown : Pl) (ls : List (Nat × Option Pt)) (l : V) (ps : List Pt) (nx2 e2 m2 : Nat), vs = [.ref g, .ref d, .int 2, .int c, .int bk, .int rc, .int fl] ∧ H g = some (.ins (CL K) dx []) ∧ DkAt K H d k sh lo kept shown ls l ∧
  0 < c ∧ c ≤ 100 ∧ shown.length = c + 3 ∧ PlOk shown ∧ RM.Chain shown c bk fl rc ps nx2 e2 m2 ∧ RM.Stop shown c nx2 e2 m2 ∧ (RM.recsOf ps).length ≤ 1000 ∧
  ∀ H' lr rv E', (∀ b p, RM.atB shown c b = some p → p.ep < E') → fl < E' → H lr = none → LgI K H' g d c bk rc nx2 lr (tlS ((E' : Nat) : Int) m2) → DkAt K H' d k sh lo kept shown ls l → H' lr = some (.lst rv) → Recs H' rv (RM.recsOf ps) → Kp [g] H H' → Q .non H'
theorem scLogI : FnScope ["self", "disk", "first", "count", "block", "record", "floor", "part"] ["self", "disk", "first", "count", "block", "record", "floor"] (defScope sLogI) := ⟨rfl, rfl, rfl, by decide +kernel, rfl, by decide +kernel, by decide +kernel⟩
theorem ok_log_init (T : Tx K mg) (kP : Kn P w K mg base (L2.CX P w) 4 (mL K "parts") ["self"] (spParts K)) (kR : Kn P w K mg base (L2.CX P w) 5 (mL K "read_on") ["self", "floor"] (spReadOn K)) (kM : Kn P w K mg base (L2.CX P w) 1 (mL K "many") ["self"] (spMany K))
    (F : FunD K "__init__" "Log.__init__" (defArgs sLogI) (defBody sLogI) (defScope sLogI) [.int 0, .int 0, .int 0] [] f fd) : FnOk P w K mg base (L2.CX P w) 6 f fd ["self", "disk", "first", "count", "block", "record", "floor"] (spLogI K) := by
  have sc := scLogI
  obtain ⟨_, G_L_parts, b_L_parts, _⟩ := kP
  obtain ⟨_, G_L_read_on, b_L_read_on, _⟩ := kR
  obtain ⟨_, G_L_many, b_L_many, _⟩ := kM
  refine F.ok sc (fun vs H Q E h => ?_) (fun cdv A outer s H vs Q E hr h => ?_)
  · obtain ⟨g, _, _, _, _, _, _, _, _, _, _, _, _, _, _, _, _, _, rfl, _⟩ := h
    rfl
  · obtain ⟨g, d, dx, c, bk, rc, fl, k, sh, lo, kept, shown, ls, l, ps, nx2, e2, m2, rfl, hg, D, hc, hcz, hS, hP, hch, hst, hz, q⟩ := h
    refine ⟨_, PSs.nox (pss_cons (ps_fld (pv 0) (pv 1) rfl)
  (pss_cons (ps_fld (pv 0) (pv 2) rfl)
  (pss_cons (ps_fld (pv 0) (pv 3) rfl)
  (pss_cons (ps_fld (pv 0) (pv 4) rfl)
  (pss_cons (ps_fld (pv 0) (pv 5) rfl)
  (pss_cons (ps_fld (pv 0) (pv 4) rfl)
  (pss_cons (ps_fld (pv 0) (pe_lst pa_nil) rfl)
  (pss_cons (ps_fld (pv 0) (pe_op op_add pe_int (pe_callB (cr_max rfl) (by rfl) (T.fr "max" (by decide +kernel)) (by decide +kernel) (pa_cons (pe_op op_cat (pe_lst (pa_cons (pv 6) pa_nil)) (pe_lc (own := [("part", 7)]) (g := gName 7) rfl sc.nd (pi_list (pe_meth0 (pv 0) T.clL (T.meL "parts" (by decide +kernel)) G_L_parts (hr.mono (by decide)) b_L_parts .nil passL)) (blkOk_by (N := ["self", "disk", "first", "count", "block", "record", "floor", "part"]) (sc := defScope sLogI) (by decide +kernel)) (fun _ _ _ _ _ => pg_name (i := 7) sc.nd rfl (Or.inl rfl)) (fun _ _ _ _ _ => (pts_one (pt_cmp (pc_notN (pv 7))))) (fun _ _ _ _ _ => (pe_ix (ix_tupC K (by rfl)) (pv 7) pe_int (fun _ _ => rfl))))) pa_nil))) rfl)
  (pss_cons (ps_expr (pe_meth (pv 0) T.clL (T.meL "read_on" (by decide +kernel)) G_L_read_on (hr.mono (by decide)) b_L_read_on .nil passL (pa_cons (pv 6) pa_nil)))
  (pss_one (ps_fld (pv 0) (pe_meth0 (pv 0) T.clL (T.meL "many" (by decide +kernel)) G_L_many (hr.mono (by decide)) b_L_many .nil passL) rfl))))))))))), ?_⟩
    refine ⟨_, rfl, _, rfl, g, CL K, dx, _, rfl, hg, T.clL, T.naL _ (by decide +kernel), (by show 0 < 1000; decide), ?_⟩
    refine ⟨_, rfl, _, rfl, g, CL K, dx, _, rfl, upd_same, T.clL, T.naL _ (by decide +kernel), (by show 1 < 1000; decide), ?_⟩
    rw [upd_upd]
    refine ⟨_, rfl, _, rfl, g, CL K, dx, _, rfl, upd_same, T.clL, T.naL _ (by decide +kernel), (by show 2 < 1000; decide), ?_⟩
    rw [upd_upd]
    refine ⟨_, rfl, _, rfl, g, CL K, dx, _, rfl, upd_same, T.clL, T.naL _ (by decide +kernel), (by show 3 < 1000; decide), ?_⟩
    rw [upd_upd]
    refine ⟨_, rfl, _, rfl, g, CL K, dx, _, rfl, upd_same, T.clL, T.naL _ (by decide +kernel), (by show 4 < 1000; decide), ?_⟩
    rw [upd_upd]
    refine ⟨_, rfl, _, rfl, g, CL K, dx, _, rfl, upd_same, T.clL, T.naL _ (by decide +kernel), (by show 5 < 1000; decide), ?_⟩
    rw [upd_upd]
    refine ⟨Nat.zero_le _, fun lr hlr => ?_⟩
    obtain ⟨hlr0, nlrg⟩ := no_new hlr
    refine ⟨_, rfl, g, CL K, dx, _, rfl, at_new hlr upd_same, T.clL, T.naL _ (by decide +kernel), (by show 6 < 1000; decide), ?_⟩
    rw [lg_new]
    have gd : g ≠ d := by
      obtain ⟨ddx, wr, hd⟩ := D.ins
      intro z
      rw [z, hd] at hg
      have := congrArg (fun o : Option HO => match o with | some (.ins _ _ fs) => fs.length | _ => 0) hg
      exact absurd this (by show ¬ 5 = 0; decide)
    obtain ⟨H1, hH1⟩ : ∃ H1, H1 = upd (upd (upd H g (.ins (CL K) dx (putF "own_next" (.int (bk : Int)) (putF "own_begin" (.int (rc : Int)) (putF "own_needed" (.int (bk : Int)) (putF "own_count" (.int (c : Int)) (putF "own_first" (.int 2) (putF "own_disk" (.ref d) [])))))))) lr (.lst [])) g (.ins (CL K) dx (lgF d c bk rc bk lr [])) := ⟨_, rfl⟩
    rw [← hH1]
    have hg1 : H1 g = some (.ins (CL K) dx (lgF d c bk rc bk lr [])) := by rw [hH1, upd_same]
    have hl1 : H1 lr = some (.lst []) := by rw [hH1]; exact at_put nlrg upd_same
    have kp1 : Kp [g] H H1 := by
      rw [hH1]
      exact ((Kp.put hg (fun _ z => by cases z) (by simp)).trans (Kp.new hlr)).trans (Kp.put (at_new hlr upd_same) (fun _ z => by cases z) (by simp))
    clear hH1
    have Dk : ∀ {H2 : Hp}, Kp [g] H H2 → DkAt K H2 d k sh lo kept shown ls l := by
      intro H2 kp
      obtain ⟨_, hkk, _⟩ := D.hk
      obtain ⟨_, hss, _⟩ := D.hs
      obtain ⟨_, hll, _⟩ := D.hl
      exact D.kp kp (by simpa using Ne.symm gd) (by simpa using Ne.symm (ins_lst hg hkk)) (by simpa using Ne.symm (ins_lst hg hss)) (by simpa using Ne.symm (ins_lst hg hll))
    have hlr00 : H lr = none := by rw [upd_ne nlrg] at hlr; exact hlr
    refine ⟨_, rfl, (by show 1 ≤ sizeLine; decide), fun q1 hq1 => ?_⟩
    have s12 : Same H1 (upd H1 q1 (.lst [V.int fl])) := sameNew hq1
    have hg2 := s12 _ _ hg1
    refine ⟨_, rfl, g, dx, _, rfl, hg2, lg_meth tl0 _ (by decide +kernel), ?_⟩
    refine ⟨g, d, c, bk, rc, bk, lr, [], k, sh, lo, kept, shown, ls, l, rfl, ⟨tl0, dx, hg2⟩, (Dk kp1).same s12, hcz, hS, hP, fun H3 p pv hp hp3 hPT s23 => ?_⟩
    refine ⟨p, rfl, ⟨_, SqL.of hp3⟩, fun D0 hD0 => ?_⟩
    generalize hobs : (List.range c).map (fun i => shown.getD (2 + i) none) = obs at hPT
    have hol := pr_len hPT
    have hoc : obs.length = c := by rw [← hobs, List.length_map, List.length_range]
    have eplen : ∀ i, (epsN (obs.take i)).length ≤ i := fun i => by
      have := List.length_filterMap_le (Option.map fun p : Pt => (p.ep : Int)) (obs.take i)
      rw [List.length_take] at this
      unfold epsN
      omega
    refine lc_list (K := K) (a := p) (xs := pv) (fun i H' => Same H3 H' ∧ H' D0 = some (.lst ((epsN (obs.take i)).map V.int))) ⟨sameNew hD0, by rw [upd_same]; rfl⟩ (fun i H' _ z => SqL.of (z.1 _ _ hp3)) ?_ ?_
    · rintro i x H' hx ⟨s3, h3⟩
      obtain ⟨ob, hob, hT⟩ := pr_get hPT hx
      have etk : obs.take (i + 1) = obs.take i ++ [ob] := by rw [List.take_add_one, hob]; rfl
      refine ⟨rfl, ?_⟩
      cases ob with
      | none =>
        have hx' : x = .non := hT
        subst hx'
        refine ⟨_, rfl, _, rfl, iteF ⟨s3, ?_⟩⟩
        rw [etk]
        unfold epsN at h3 ⊢
        rw [List.filterMap_append]
        simpa using h3
      | some pt =>
        obtain ⟨t, y, rfl, hT⟩ := hT
        have hT' := s3 _ _ hT
        refine ⟨_, rfl, _, rfl, iteT ?_⟩
        refine ⟨_, rfl, _, _, _, _, rfl, rfl, SqT.of hT', atI_nat (j := 1) (v := .int pt.ep) rfl, _, h3, ?_, fun b o eb => ?_, ?_⟩
        · have := eplen i
          have hi : i < pv.length := (List.getElem?_eq_some_iff.mp hx).1
          rw [List.length_map, sizeLine_eq]; omega
        · exact at_put (ne_of_none eb hD0) (s3 _ _ eb)
        · rw [upd_same, etk]
          unfold epsN
          rw [List.filterMap_append, List.map_append]
          rfl
    · rintro H' ⟨s3, h3⟩
      rw [hol, List.take_length] at h3
      refine ⟨q1, D0, [.int fl], (epsN obs).map V.int, rfl, rfl, s3 _ _ (s23 _ _ upd_same), h3, ?_, fun z hz' => ?_⟩
      · have := eplen obs.length
        rw [List.take_length] at this
        rw [List.length_map, sizeLine_eq]
        simp only [List.length_cons, List.length_nil]
        omega
      refine ⟨z, (fl : Int) :: epsN obs, rfl, SqL.of (by rw [upd_same]; rfl), by simp, fun m hm hle => ?_⟩
      obtain ⟨mm, rfl⟩ : ∃ mm : Nat, m = mm := by
        rcases List.mem_cons.mp hm with e | e
        · exact ⟨fl, e⟩
        · exact epsN_nat e
      have s14 : Same H1 (upd H' z (.lst ([V.int fl] ++ (epsN obs).map V.int))) := ((s12.trans s23).trans s3).trans (sameNew hz')
      have hg4 := s14 _ _ hg1
      refine ⟨_, _, rfl, rfl, _, rfl, g, CL K, dx, _, rfl, hg4, T.clL, T.naL _ (by decide +kernel), lg_len tl0, ?_⟩
      rw [lg_put_epoch]
      generalize hH4 : upd H' z (.lst ([V.int fl] ++ (epsN obs).map V.int)) = H4 at s14 hg4
      have kp5 : Kp [g] H4 (upd H4 g (.ins (CL K) dx (lgF d c bk rc bk lr (tlE (1 + (mm : Int)))))) := Kp.put hg4 (fun _ z => by cases z) (by simp)
      have kp15 : Kp [g] H1 (upd H4 g (.ins (CL K) dx (lgF d c bk rc bk lr (tlE (1 + (mm : Int)))))) := (Kp.same (fp := [g]) s14).trans kp5
      have hl5 := kp15.keep _ _ hl1 (by simpa using nlrg)
      have hg5 : upd H4 g (.ins (CL K) dx (lgF d c bk rc bk lr (tlE (1 + (mm : Int))))) g = some (.ins (CL K) dx (lgF d c bk rc bk lr (tlE (1 + (mm : Int))))) := upd_same
      have sep : Sep g d k sh lo lr := by
        obtain ⟨_, hkk, _⟩ := D.hk
        obtain ⟨_, hss, _⟩ := D.hs
        obtain ⟨_, hll, _⟩ := D.hl
        exact ⟨gd, fun z => (by rw [z, hkk] at hlr00; cases hlr00), fun z => (by rw [z, hss] at hlr00; cases hlr00), fun z => (by rw [z, hll] at hlr00; cases hlr00)⟩
      refine ⟨_, rfl, g, dx, _, rfl, hg5, lg_meth tl1 _ (by decide +kernel), _, rfl, ?_⟩
      refine ⟨g, d, c, bk, rc, bk, fl, lr, _, k, sh, lo, kept, shown, ls, l, ps, nx2, e2, m2, rfl, ⟨tl1, dx, hg5⟩, Dk (kp1.trans kp15), sep, hl5, hc, hS, hP, hch, hst, hz, fun H6 rv L6 D6 hl6 hR6 kp6 => ?_⟩
      obtain ⟨ht6, dx6, hg6⟩ := L6
      refine ⟨_, rfl, g, dx6, _, rfl, hg6, lg_meth ht6 _ (by decide +kernel), ?_⟩
      unfold tNil
      refine ⟨g, d, c, bk, rc, nx2, lr, _, rv, rfl, ⟨ht6, dx6, hg6⟩, hl6, _, rfl, g, CL K, dx6, _, rfl, hg6, T.clL, T.naL _ (by decide +kernel), lg_len ht6, ?_⟩
      rw [lg_put_safe0]
      have ngl : g ≠ lr := Ne.symm nlrg
      have kp7 : Kp [g] H6 (upd H6 g (.ins (CL K) dx6 (lgF d c bk rc nx2 lr (tlS (1 + (mm : Int)) ((rc : Int) + rv.length))))) := Kp.put hg6 (fun _ z => by cases z) (by simp)
      have em2 : (rc : Int) + rv.length = (m2 : Int) := by
        have := hch.sum
        have e3 : rv.length = (RM.recsOf ps).length := pr_len hR6
        omega
      have kp8 : Kp [g] H (upd H6 g (.ins (CL K) dx6 (lgF d c bk rc nx2 lr (tlS (1 + (mm : Int)) ((rc : Int) + rv.length))))) := by
        refine (Kp.trans ?_ kp7)
        refine ⟨fun b o e n => kp6.keep b o ((kp1.trans kp15).keep b o e n) fun z => ?_, fun b xs e => kp6.tups b xs ((kp1.trans kp15).tups b xs e)⟩
        rcases List.mem_cons.mp z with z | z
        · exact n (by simp [z])
        · have z' : b = lr := by simpa using z
          rw [z', hlr00] at e; cases e
      refine q _ lr rv (1 + mm) ?_ ?_ hlr00 ⟨tl2, dx6, ?_⟩ (Dk kp8) (kp7.keep _ _ hl6 (by simpa using nlrg)) (hR6.kp kp7) kp8
      · intro b p hp
        have hb := Nat.mod_lt b hc
        have hin : some p ∈ obs := by
          rw [← hobs]
          exact List.mem_map.mpr ⟨b % c, List.mem_range.mpr hb, hp⟩
        have := hle _ (List.mem_cons_of_mem _ (epsN_mem hin))
        omega
      · have := hle _ List.mem_cons_self
        omega
      · rw [upd_same, em2]
        rfl
end
end K51
end L2
set_option Elab.async false
set_option linter.all false
set_option maxRecDepth 100000
set_option maxHeartbeats 4000000
/-! KE1: the law's draws. -/
namespace L2
open PySem PySem.Spec PyProof.Rows
namespace K51
/-- the box of draws, m an upper bound of its count -/
def Bx (H : Hp) (bx : Addr) (m : Nat) : Prop := ∃ big seed far : Int, H bx = some (.lst [.int big, .int seed, .int far]) ∧ 0 ≤ far ∧ far ≤ m
theorem Bx.mono {H : Hp} {bx : Addr} {m n : Nat} (b : Bx H bx m) (h : m ≤ n) : Bx H bx n := by
  obtain ⟨x, y, z, h1, h2, h3⟩ := b
  exact ⟨x, y, z, h1, h2, by omega⟩
theorem Bx.kp {fp : List Addr} {H H' : Hp} {bx : Addr} {m : Nat} (b : Bx H bx m) (k : Kp fp H H') (h : bx ∉ fp) : Bx H' bx m := by
  obtain ⟨x, y, z, h1, h2, h3⟩ := b
  exact ⟨x, y, z, k.keep _ _ h1 h, h2, h3⟩
theorem mod_nat {i : Int} {b : Nat} (h : 0 < b) : ∃ r : Nat, r < b ∧ i.fmod (b : Int) = (r : Int) := by
  rw [Int.fmod_eq_emod_of_nonneg _ (by omega)]
  have h1 := Int.emod_nonneg i (show (b : Int) ≠ 0 by omega)
  have h2 := Int.emod_lt_of_pos i (show (0 : Int) < b by omega)
  exact ⟨(i % (b : Int)).toNat, by omega, by omega⟩
section
variable {P : Program} {w : World} {K : PySem.W.Frag} {mg : Str → Option Value} {base : Heap} {f : Addr} {fd : FuncData}
abbrev sTake : Stmt := topS 24
def spTake : Sp := fun vs H Q _ => ∃ (bx : Addr) (m below : Nat), vs = [.ref bx, .int below] ∧ Bx H bx m ∧ 0 < below ∧ below ≤ 1000 ∧ m ≤ 1000000 ∧ ∀ H' (r : Nat), r < below → Bx H' bx (m + 1) → Kp [bx] H H' → Q (.int r) H'
theorem scTake : FnScope ["_law_box_here", "_law_below", "_law_once", "_law_twice", "_law_found", "_law_seed", "_law_far"] ["_law_box_here", "_law_below"] (defScope sTake) := ⟨rfl, rfl, rfl, by decide +kernel, rfl, by decide +kernel, by decide +kernel⟩
theorem ok_take (T : Tx K mg) (F : FnP K "_law_take" "_law_take" sTake f fd) : FnOk P w K mg base (L2.CX P w) 1 f fd ["_law_box_here", "_law_below"] spTake := by
  have sc := scTake
  refine F.ok sc (fun vs H Q E h => ?_) (fun cdv A outer s H vs Q E hr h => ?_)
  · obtain ⟨_, _, _, rfl, _⟩ := h
    rfl
  · obtain ⟨bx, m, below, rfl, ⟨big, seed, far, hb, hf0, hfm⟩, h0, h1, hm, q⟩ := h
    refine ⟨_, PSs.nox (pss_cons (ps_if (pt_cmpR op_gt (pe_ix ix_list (pv 0) pe_int (fun _ _ => rfl)) pe_int (nomark _))
  (pss_cons (ps_set (i := 4) sc.nd rfl (Or.inl rfl) (pe_op op_modN (pe_ix ix_list (pv 0) pe_int (fun _ _ => rfl)) (pv 1)))
  (pss_cons (ps_asg (pe_op op_fdivW (pe_ix ix_list (pv 0) pe_int (fun _ _ => rfl)) (pv 1)) (pg_sub (pv 0) pe_int set_list))
  (pss_one (ps_ret (pv 4)))))
  pss_nil)
  (pss_cons (ps_par (i := 5) (j := 6) (by rfl) sc.nd rfl rfl (by decide) rfl rfl (pa_cons (pe_ix ix_list (pv 0) pe_int (fun _ _ => rfl)) (pa_cons (pe_op op_add (pe_ix ix_list (pv 0) pe_int (fun _ _ => rfl)) pe_int) pa_nil)) (by rfl))
  (pss_cons (ps_asg (pv 6) (pg_sub (pv 0) pe_int set_list))
  (pss_cons (ps_set (i := 2) sc.nd rfl (Or.inl rfl) (pe_op op_modN (pe_op op_mul (pe_op op_add (pv 5) (pe_op op_mul pe_int (pv 6))) (pe_op op_add pe_int (pv 6))) pe_int))
  (pss_cons (ps_set (i := 3) sc.nd rfl (Or.inl rfl) (pe_op op_modN (pe_op op_mul (pe_op op_add (pe_op op_add (pv 2) (pv 6)) (pe_op op_fdivW (pv 5) pe_int)) (pe_op op_add (pe_op op_modN (pv 2) pe_int) pe_int)) pe_int))
  (pss_one (ps_ret (pe_op op_modN (pe_op op_fdivW (pe_op op_modN (pe_op op_add (pe_op op_mul (pv 3) pe_int) (pv 2)) pe_int) pe_int) (pv 1))))))))), ?_⟩
    have i0 : atI [V.int big, .int seed, .int far] 0 = some (.int big) := atI_nat (j := 0) rfl
    have i1 : atI [V.int big, .int seed, .int far] 1 = some (.int seed) := atI_nat (j := 1) rfl
    have i2 : atI [V.int big, .int seed, .int far] 2 = some (.int far) := atI_nat (j := 2) rfl
    refine ⟨_, rfl, _, _, _, _, rfl, rfl, SqL.of hb, i0, _, _, rfl, rfl, _, rfl, ?_⟩
    have hput : ∀ x : List V, Kp [bx] H (upd H bx (.lst x)) := fun x => Kp.put hb (fun _ z => by cases z) (by simp)
    by_cases hbig : 0 < big
    · refine ifT (decide_eq_true hbig) ?_
      obtain ⟨r, hr1, hr2⟩ := mod_nat (i := big) h0
      refine ⟨_, rfl, _, _, _, _, rfl, rfl, SqL.of hb, i0, _, rfl, _, _, rfl, rfl, (by omega), ?_⟩
      refine ⟨_, rfl, _, _, _, _, rfl, rfl, SqL.of hb, i0, _, rfl, _, _, rfl, rfl, ⟨by omega, Nat.lt_trans (small_int (by omega)) (by decide)⟩, ?_⟩
      refine ⟨_, rfl, bx, _, 0, 0, rfl, rfl, hb, rfl, _, rfl, ?_⟩
      show Q (.int (big.fmod (below : Int))) _
      rw [hr2]
      exact q _ r hr1 ⟨_, _, _, upd_same, hf0, by omega⟩ (hput _)
    · refine ifF (decide_eq_false hbig) ?_
      refine ⟨_, rfl, _, _, _, _, rfl, rfl, SqL.of hb, i1, _, rfl, _, _, _, _, rfl, rfl, SqL.of hb, i2, _, _, rfl, rfl, _, _, rfl, ?_⟩
      refine ⟨_, rfl, _, rfl, bx, _, 2, 2, rfl, rfl, hb, rfl, ?_⟩
      refine ⟨_, rfl, _, rfl, _, _, rfl, rfl, .inl ⟨by decide, by decide⟩, _, _, rfl, rfl, _, rfl, _, _, rfl, rfl, _, _, rfl, rfl, .inr ⟨by omega, by omega⟩, _, _, rfl, rfl, (show (2147483647 : Int) ≠ 0 by decide), ?_⟩
      obtain ⟨ro, ro1, ro2⟩ := mod_nat (i := ((seed + 48271 * (far + 1)) * (39373 + (far + 1))).fmod 2147483647) (b := 40009) (by decide)
      have eo : (((seed + 48271 * (far + 1)) * (39373 + (far + 1))).fmod 2147483647).fmod 40009 = (ro : Int) := ro2
      refine ⟨_, rfl, _, rfl, _, _, rfl, rfl, _, rfl, _, _, rfl, rfl, ⟨by decide, by decide +kernel⟩, _, _, rfl, rfl, _, rfl, _, _, rfl, rfl, (show (40009 : Int) ≠ 0 by decide), _, _, rfl, rfl, _, _, rfl, rfl, .inr ⟨?_, ?_⟩, _, _, rfl, rfl, (show (2147483629 : Int) ≠ 0 by decide), ?_⟩
      · show -(2 ^ 64) < (((seed + 48271 * (far + 1)) * (39373 + (far + 1))).fmod 2147483647).fmod 40009 + 7
        rw [eo]; omega
      · show (((seed + 48271 * (far + 1)) * (39373 + (far + 1))).fmod 2147483647).fmod 40009 + 7 < 2 ^ 64
        rw [eo]; omega
      refine ⟨_, rfl, _, _, rfl, rfl, .inr ⟨by decide, by decide⟩, _, rfl, _, _, rfl, rfl, _, _, rfl, rfl, (show (2147483587 : Int) ≠ 0 by decide), _, _, rfl, rfl, ⟨by decide, by decide +kernel⟩, _, rfl, _, _, rfl, rfl, (show (below : Int) ≠ 0 by omega), ?_⟩
      have fin : ∀ z : Int, Q (.int (z.fmod below)) (upd H bx (.lst [.int big, .int seed, .int (far + 1)])) := fun z => by
        obtain ⟨r, hr1, hr2⟩ := mod_nat (i := z) h0
        rw [hr2]
        exact q _ r hr1 ⟨_, _, _, upd_same, by omega, by omega⟩ (hput _)
      exact fin _
abbrev sOf : Stmt := topS 25
def spOf (K : PySem.W.Frag) : Sp := fun vs H Q _ => ∃ (bx l : Addr) (m : Nat) (xs : List V), vs = [.ref bx, .ref l] ∧ Bx H bx m ∧ H l = some (.lst xs) ∧ l ≠ bx ∧ xs ≠ [] ∧ xs.length ≤ 1000 ∧ m ≤ 1000000 ∧ ∀ H' v, v ∈ xs → Bx H' bx (m + 1) → Kp [bx] H H' → Q v H'
theorem scOf : FnScope ["_law_box_here", "_law_some_here"] ["_law_box_here", "_law_some_here"] (defScope sOf) := ⟨rfl, rfl, rfl, by decide +kernel, rfl, by decide +kernel, by decide +kernel⟩
theorem ok_of (T : Tx K mg) (kT : Kn P w K mg base (L2.CX P w) 1 (He.ga K "_law_take") ["_law_box_here", "_law_below"] spTake) (F : FnP K "_law_of" "_law_of" sOf f fd) : FnOk P w K mg base (L2.CX P w) 2 f fd ["_law_box_here", "_law_some_here"] (spOf K) := by
  have sc := scOf
  obtain ⟨_, G__law_take, b__law_take, k__law_take⟩ := kT
  refine F.ok sc (fun vs H Q E h => ?_) (fun cdv A outer s H vs Q E hr h => ?_)
  · obtain ⟨_, _, _, _, rfl, _⟩ := h
    rfl
  · obtain ⟨bx, l, m, xs, rfl, hb, hl, nlb, hne, hz, hm, q⟩ := h
    refine ⟨_, PSs.nox (pss_one (ps_ret (pe_ix ix_list (pv 1) (pe_call G__law_take (hr.mono (by decide)) rfl (T.gw "_law_take" (by decide +kernel)) k__law_take b__law_take .nil passL (pa_cons (pv 0) (pa_cons (pe_callB call_len (by rfl) (T.fr "len" (by decide +kernel)) (by decide +kernel) (pa_cons (pv 1) pa_nil)) pa_nil))) (fun _ _ => rfl)))), ?_⟩
    refine ⟨_, rfl, _, rfl, _, rfl, _, _, rfl, .inl ⟨_, SqL.of hl, rfl⟩, bx, m, xs.length, rfl, hb, List.length_pos_iff.mpr hne, hz, hm, fun H' r hr1 hb' k' => ?_⟩
    exact ⟨l, xs, r, xs[r], rfl, rfl, SqL.of (k'.keep _ _ hl (by simpa using nlb)), atI_nat (List.getElem?_eq_getElem hr1), q H' _ (List.getElem_mem hr1) hb' k'⟩
/-! ### atoms -/
def menu : List V := [.int 0, .int 1, .int (-1), .non, .str "a", .str "", .str "log", .str "root", .int (10 ^ 12), .int 7, .str "two words", .non]
abbrev sAtom : Stmt := topS 27
def spAtom (K : PySem.W.Frag) : Sp := fun vs H Q _ => ∃ (bx : Addr) (m : Nat), vs = [.ref bx] ∧ Bx H bx m ∧ m ≤ 1000000 ∧ ∀ H' v, v ∈ menu → Bx H' bx (m + 1) → Kp [bx] H H' → Q v H'
theorem scAtom : FnScope ["_law_box_here"] ["_law_box_here"] (defScope sAtom) := ⟨rfl, rfl, rfl, by decide +kernel, rfl, by decide +kernel, by decide +kernel⟩
theorem ok_atom (T : Tx K mg) (kO : Kn P w K mg base (L2.CX P w) 2 (He.ga K "_law_of") ["_law_box_here", "_law_some_here"] (spOf K)) (F : FnP K "_law_atom" "_law_atom" sAtom f fd) : FnOk P w K mg base (L2.CX P w) 3 f fd ["_law_box_here"] (spAtom K) := by
  have sc := scAtom
  obtain ⟨_, G__law_of, b__law_of, k__law_of⟩ := kO
  refine F.ok sc (fun vs H Q E h => ?_) (fun cdv A outer s H vs Q E hr h => ?_)
  · obtain ⟨_, _, rfl, _⟩ := h
    rfl
  · obtain ⟨bx, m, rfl, hb, hm, q⟩ := h
    refine ⟨_, PSs.nox (pss_one (ps_ret (pe_call G__law_of (hr.mono (by decide)) rfl (T.gw "_law_of" (by decide +kernel)) k__law_of b__law_of .nil passL (pa_cons (pv 0) (pa_cons (pe_lst (pa_cons pe_int (pa_cons pe_int (pa_cons (pe_un un_neg pe_int) (pa_cons pe_non (pa_cons pe_str (pa_cons pe_str (pa_cons pe_str (pa_cons pe_str (pa_cons (pe_op op_pow pe_int pe_int) (pa_cons pe_int (pa_cons pe_str (pa_cons pe_non pa_nil))))))))))))) pa_nil))))), ?_⟩
    refine ⟨_, rfl, _, rfl, _, _, rfl, rfl, ⟨by decide, by decide, by decide⟩, (by show 12 ≤ sizeLine; decide), fun l hl => ?_⟩
    have hnb : l ≠ bx := fun z => by
      obtain ⟨_, _, _, e, _⟩ := hb
      rw [z, e] at hl; cases hl
    refine ⟨bx, l, m, menu, rfl, hb.kp (Kp.new (fp := []) hl) (by simp), upd_same, hnb, by simp [menu], by simp [menu], hm, fun H' v hv hb' k' => q H' v hv hb' ((Kp.new hl).trans k')⟩
end
end K51
end L2
set_option Elab.async false
set_option linter.all false
set_option maxRecDepth 100000
set_option maxHeartbeats 4000000
/-! KE2: values as data, their repr; _law_same. -/
namespace L2
open PySem PySem.Spec PyProof.Rows
namespace K51
structure Fi (d : PyData) (n B : Nat) : Prop where
  lay : d.canLay0 = true
  sh : d.showable = true
  dep : d.depth ≤ n
  len : d.shown.length ≤ B
theorem Fi.mono {d : PyData} {n B n' B' : Nat} (h : Fi d n B) (h1 : n ≤ n') (h2 : B ≤ B') : Fi d n' B' := ⟨h.lay, h.sh, Nat.le_trans h.dep h1, Nat.le_trans h.len h2⟩
theorem listText_len (ts : List Str) : (listText ts).length ≤ 2 + piled ts := by
  cases ts with
  | nil => rw [listText_nil]; decide +kernel
  | cons t r =>
    have e : (listText (t :: r)).length = (textFrom 1 ("[" ++ (if 0 > 0 then ", " else "" : String) ++ t) r).length + 1 := by
      show (textFrom 0 "[" (t :: r) ++ "]").length = _
      rw [strLen_append]; rfl
    rw [e, textFrom_length_pos r 1 _ (by decide), strLen_append, strLen_append, piled_cons]
    have : (("[" : String) : Str).length = 1 := rfl
    have : (((if 0 > 0 then ", " else "" : String)) : Str).length = 0 := rfl
    omega
theorem tupleText_len (ts : List Str) : (tupleText ts).length ≤ 4 + piled ts := by
  unfold tupleText
  rw [strLen_append, strLen_append]
  have e1 : ((("(" : String) : Str)).length = 1 := rfl
  have e3 : (((if ts.length == 1 then ",)" else ")" : String) : Str)).length ≤ 2 := by split <;> decide
  cases ts with
  | nil =>
    have : (Str.join ", " []).length = 0 := rfl
    omega
  | cons t r =>
    have := join_length_add (t :: r) (by simp)
    omega
theorem Fi.all {n B : Nat} : ∀ {ds : List PyData}, (∀ d ∈ ds, Fi d n B) → PyData.canLayAll0 ds = true ∧ PyData.showableAll ds = true ∧ PyData.depthAll ds ≤ n ∧ piled (PyData.shownAll ds) ≤ ds.length * (B + 2)
  | [], _ => ⟨rfl, rfl, Nat.zero_le _, by simp [PyData.shownAll, piled]⟩
  | d :: ds, h => by
    have a := h d List.mem_cons_self
    obtain ⟨b1, b2, b3, b4⟩ := Fi.all fun x hx => h x (List.mem_cons_of_mem _ hx)
    refine ⟨?_, ?_, ?_, ?_⟩
    · simp [PyData.canLayAll0, a.lay, b1]
    · simp [PyData.showableAll, a.sh, b2]
    · simp only [PyData.depthAll]; exact Nat.max_le.mpr ⟨a.dep, b3⟩
    · simp only [PyData.shownAll, piled_cons, List.length_cons]
      have := a.len
      rw [Nat.add_mul]
      omega
theorem Fi.list {n B : Nat} {ds : List PyData} (h : ∀ d ∈ ds, Fi d n B) : Fi (.list ds) (n + 1) (2 + ds.length * (B + 2)) := by
  obtain ⟨b1, b2, b3, b4⟩ := Fi.all h
  refine ⟨by simpa [PyData.canLay0] using b1, by simpa [PyData.showable] using b2, by simp only [PyData.depth]; omega, ?_⟩
  simp only [PyData.shown]
  exact Nat.le_trans (listText_len _) (by omega)
theorem Fi.tuple {n B : Nat} {ds : List PyData} (h : ∀ d ∈ ds, Fi d n B) : Fi (.tuple ds) (n + 1) (4 + ds.length * (B + 2)) := by
  obtain ⟨b1, b2, b3, b4⟩ := Fi.all h
  refine ⟨by simpa [PyData.canLay0] using b1, by simpa [PyData.showable] using b2, by simp only [PyData.depth]; omega, ?_⟩
  simp only [PyData.shown]
  exact Nat.le_trans (tupleText_len _) (by omega)
theorem Fi.int {i : Int} (h : i.natAbs.log2 < 1920) : Fi (.int i) 0 1921 := ⟨rfl, by simp [PyData.showable, h], by simp [PyData.depth], by simp only [PyData.shown]; exact int_text_len_1921 h⟩
/-- an atom's data -/
def dat1 (v : V) : PyData := match v with
  | .int i => .int i
  | .str x => .str x
  | _ => .none
theorem menu_fi : ∀ v ∈ menu, Fi (dat1 v) 0 20 := by
  have h : menu.map (fun v => ((dat1 v).canLay0 && (dat1 v).showable && decide ((dat1 v).depth ≤ 0) && decide ((dat1 v).shown.length ≤ 20))) = menu.map fun _ => true := by decide +kernel
  intro v hv
  obtain ⟨i, hi, e⟩ := List.mem_iff_getElem.mp hv
  have h2 := congrArg (fun l => l[i]?) h
  simp only [List.getElem?_map, List.getElem?_eq_getElem hi, Option.map_some, e] at h2
  have h3 := Option.some.inj h2
  simp only [Bool.and_eq_true, decide_eq_true_eq] at h3
  exact ⟨h3.1.1.1, h3.1.1.2, h3.1.2, h3.2⟩
theorem menu_flat : ∀ v ∈ menu, v = .non ∨ (∃ i, v = .int i) ∨ ∃ x, v = .str x := by
  intro v hv
  simp only [menu, List.mem_cons, List.not_mem_nil, or_false] at hv
  rcases hv with rfl | rfl | rfl | rfl | rfl | rfl | rfl | rfl | rfl | rfl | rfl | rfl <;> simp
theorem menu_dp {K : PySem.W.Frag} {H : Hp} : ∀ v ∈ menu, Dp K H v (dat1 v) := by
  intro v hv
  rcases menu_flat v hv with rfl | ⟨i, rfl⟩ | ⟨x, rfl⟩
  · exact .non
  · exact .int i
  · exact .str x
/-- a RECORD of the law's -/
def RecA (r : List V) : Prop := RecOk r ∧ ∀ v ∈ r, v ∈ menu
def datR (r : List V) : PyData := .tuple (r.map dat1)
def datL (rs : List (List V)) : PyData := .list (rs.map datR)
theorem fi_rec {r : List V} (h : RecA r) : Fi (datR r) 1 200 := by
  have := Fi.tuple (n := 0) (B := 20) (ds := r.map dat1) fun d hd => by
    obtain ⟨v, hv, rfl⟩ := List.mem_map.mp hd
    exact menu_fi v (h.2 v hv)
  refine this.mono (Nat.le_refl _) ?_
  have h2 := h.1.2
  rw [List.length_map]
  omega
theorem fi_recs {rs : List (List V)} (h : ∀ r ∈ rs, RecA r) (hl : rs.length ≤ 100) : Fi (datL rs) 2 20300 := by
  have := Fi.list (n := 1) (B := 200) (ds := rs.map datR) fun d hd => by
    obtain ⟨v, hv, rfl⟩ := List.mem_map.mp hd
    exact fi_rec (h v hv)
  refine this.mono (Nat.le_refl _) ?_
  rw [List.length_map]
  omega
theorem fi_groups {gs : List (List (List V))} (h : ∀ g ∈ gs, (∀ r ∈ g, RecA r) ∧ g.length ≤ 100) : Fi (.list (gs.map datL)) 3 (2 + gs.length * 20302) := by
  have := Fi.list (n := 2) (B := 20300) (ds := gs.map datL) fun d hd => by
    obtain ⟨v, hv, rfl⟩ := List.mem_map.mp hd
    exact fi_recs (h v hv).1 (h v hv).2
  refine this.mono (Nat.le_refl _) ?_
  rw [List.length_map]
  omega
section
variable {K : PySem.W.Frag} {H : Hp}
theorem dp_atoms : ∀ {r : List V}, (∀ v ∈ r, v ∈ menu) → DpAll K H r (r.map dat1)
  | [], _ => .nil
  | v :: r, h => .cons (menu_dp v (h v List.mem_cons_self)) (dp_atoms fun x hx => h x (List.mem_cons_of_mem _ hx))
theorem dp_rec {v : V} {r : List V} (h : Rec H v r) (ha : ∀ x ∈ r, x ∈ menu) : Dp K H v (datR r) := by
  obtain ⟨a, rfl, h⟩ := h
  exact .tup (SqT.of h) (dp_atoms ha)
theorem dp_recs : ∀ {vs : List V} {rs : List (List V)}, Recs H vs rs → (∀ r ∈ rs, RecA r) → DpAll K H vs (rs.map datR)
  | _, _, .nil, _ => .nil
  | _, _, .cons x t, h => .cons (dp_rec x (h _ List.mem_cons_self).2) (dp_recs t fun y hy => h y (List.mem_cons_of_mem _ hy))
theorem dp_list {a : Addr} {vs : List V} {rs : List (List V)} (ha : H a = some (.lst vs)) (h : Recs H vs rs) (hr : ∀ r ∈ rs, RecA r) : Dp K H (.ref a) (datL rs) := .lst (SqL.of ha) (dp_recs h hr)
theorem dp_groups : ∀ {vs : List V} {gs : List (List (List V))}, Grps H vs gs → (∀ g ∈ gs, ∀ r ∈ g, RecA r) → DpAll K H vs (gs.map datL)
  | _, _, .nil, _ => .nil
  | _, _, .cons ⟨a, us, e, h1, h2⟩ t, h => .cons (e ▸ dp_list h1 h2 (h _ List.mem_cons_self)) (dp_groups t fun y hy => h y (List.mem_cons_of_mem _ hy))
end
theorem Fi.shaped {d : PyData} {n B : Nat} (h : Fi d n B) (hn : n ≤ 64) : SeqAt.shaped d = true := by
  unfold SeqAt.shaped
  rw [h.lay, decide_eq_true (Nat.le_trans h.dep hn)]; rfl
section
variable {P : Program} {w : World} {K : PySem.W.Frag} {mg : Str → Option Value} {base : Heap} {f : Addr} {fd : FuncData}
abbrev sSame : Stmt := topS 26
def spSame (K : PySem.W.Frag) : Sp := fun vs H Q _ => ∃ (a b : Addr) (d : PyData), vs = [.ref a, .ref b] ∧ Dp K H (.ref a) d ∧ Dp K H (.ref b) d ∧ Fi d 20 1000000 ∧ Q (.bl true) H
theorem scSame : FnScope ["_law_found", "_law_due"] ["_law_found", "_law_due"] (defScope sSame) := ⟨rfl, rfl, rfl, by decide +kernel, rfl, by decide +kernel, by decide +kernel⟩
theorem ok_same (T : Tx K mg) (F : FnP K "_law_same" "_law_same" sSame f fd) : FnG P w K mg base (L2.CX P w) 1 f fd ["_law_found", "_law_due"] (spSame K) := by
  have sc := scSame
  refine okG F sc (fun vs H Q E h => ?_) (fun cdv A outer s H vs Q E hgd hr h => ?_)
  · obtain ⟨_, _, _, rfl, _⟩ := h
    rfl
  · obtain ⟨a, b, d, rfl, h1, h2, hf, q⟩ := h
    have hu : (A.deeper (envOfC "_law_same" (defScope sSame) s.heap.objs.size f cdv)).units + 64 < cLine := by have := hr.un; omega
    have hnd := PyData.hasDict_of_canLay d hf.lay
    refine ⟨_, PSs.nox (pss_one (ps_ret (pe_cmpR op_eq (pe_callB (call_repr hgd hu) (by rfl) (T.fr "repr" (by decide +kernel)) (by decide +kernel) (pa_cons (pv 0) pa_nil)) (pe_callB (call_repr hgd hu) (by rfl) (T.fr "repr" (by decide +kernel)) (by decide +kernel) (pa_cons (pv 1) pa_nil)) (nomark _)))), ?_⟩
    refine ⟨_, rfl, a, d, rfl, h1, hf.sh, hnd, hf.dep, (by have := hf.len; rw [sizeLine_eq]; omega), _, rfl, b, d, rfl, h2, hf.sh, hnd, hf.dep, (by have := hf.len; rw [sizeLine_eq]; omega), rfl, ?_⟩
    show Q (.bl (decide (V.str d.shown = V.str d.shown))) H
    rw [decide_eq_true rfl]
    exact q
end
end K51
end L2
set_option Elab.async false
set_option linter.all false
set_option maxRecDepth 100000
set_option maxHeartbeats 4000000
/-! KE3: _law_some, _law_record, _law_packed. -/
namespace L2
open PySem PySem.Spec PyProof.Rows
namespace K51
section
variable {P : Program} {w : World} {K : PySem.W.Frag} {mg : Str → Option Value} {base : Heap} {f : Addr} {fd : FuncData}
abbrev sSome : Stmt := topS 28
def spSome : Sp := fun vs H Q _ => ∃ (bx : Addr) (m n : Nat), vs = [.ref bx, .int n] ∧ Bx H bx m ∧ n ≤ 100 ∧ m ≤ 900000 ∧ ∀ H' p ks, H p = none → H' p = some (.lst (natsV ks)) → (∀ i ∈ ks, i < n) → Bx H' bx (m + 101) → Kp [bx] H H' → Q (.ref p) H'
theorem scSome : FnScope ["_law_box_here", "_law_most", "_law_dense", "_law_k"] ["_law_box_here", "_law_most"] (defScope sSome) := ⟨rfl, rfl, rfl, by decide +kernel, rfl, by decide +kernel, by decide +kernel⟩
theorem ok_some (T : Tx K mg) (kT : Kn P w K mg base (L2.CX P w) 1 (He.ga K "_law_take") ["_law_box_here", "_law_below"] spTake) (F : FnP K "_law_some" "_law_some" sSome f fd) : FnOk P w K mg base (L2.CX P w) 2 f fd ["_law_box_here", "_law_most"] spSome := by
  have sc := scSome
  obtain ⟨_, G__law_take, b__law_take, k__law_take⟩ := kT
  refine F.ok sc (fun vs H Q E h => ?_) (fun cdv A outer s H vs Q E hr h => ?_)
  · obtain ⟨_, _, _, rfl, _⟩ := h
    rfl
  · obtain ⟨bx, m, n, rfl, hb, hn, hm, q⟩ := h
    refine ⟨_, PSs.nox (pss_cons (ps_set (i := 2) sc.nd rfl (Or.inr rfl) (pe_call G__law_take (hr.mono (by decide)) rfl (T.gw "_law_take" (by decide +kernel)) k__law_take b__law_take .nil passL (pa_cons (pv 0) (pa_cons pe_int pa_nil))))
  (pss_one (ps_ret (pe_lc (own := [("_law_k", 3)]) (g := gName 3) rfl sc.nd (pi_range1 (by rfl) (T.fr "range" (by decide +kernel)) (pa_cons (pv 1) pa_nil)) (blkOk_by (N := ["_law_box_here", "_law_most", "_law_dense", "_law_k"]) (sc := defScope sSome) (by decide +kernel)) (fun _ _ _ _ _ => pg_name (i := 3) sc.nd rfl (Or.inl rfl)) (fun _ _ _ _ _ => (pts_one (pt_cmpR op_lt (pe_call G__law_take (hr.mono (by decide)) rfl (T.gw "_law_take" (by decide +kernel)) k__law_take b__law_take .nil passL (pa_cons (pv 0) (pa_cons pe_int pa_nil))) (pv 2) (nomark _)))) (fun _ _ _ _ _ => (pv 3)))))), ?_⟩
    refine ⟨_, rfl, bx, m, 5, rfl, hb, by decide, by decide, by omega, fun H1 dn hdn hb1 k1 => ?_⟩
    refine ⟨_, rfl, n, rfl, by omega, by omega, fun p hp => ?_⟩
    have hpb : p ≠ bx := fun z => by
      obtain ⟨_, _, _, e, _⟩ := hb1
      rw [z, e] at hp; cases hp
    refine lc_range (lo := 0) (n := (n : Int).toNat) (fun i H' => ∃ ks, H' p = some (.lst (natsV ks)) ∧ (∀ j ∈ ks, j < i) ∧ ks.length ≤ i ∧ Bx H' bx (m + 1 + i) ∧ Kp [bx, p] H1 H') ⟨[], upd_same, (fun j hj => by cases hj), Nat.le_refl _, hb1.kp (Kp.new (fp := []) hp) (by simp), Kp.new hp⟩ ?_ ?_
    · rintro i H' hi ⟨ks, h1, h2, h3, h4, h5⟩
      have hi : i < n := by simpa using hi
      refine ⟨rfl, ?_⟩
      refine ⟨_, rfl, bx, m + 1 + i, 4, rfl, h4, by decide, by decide, by omega, fun H2 r hr1 hb2 k2 => ?_⟩
      refine ⟨_, rfl, _, _, rfl, rfl, _, rfl, ?_⟩
      have hp2 := k2.keep _ _ h1 (by simpa using hpb)
      by_cases hlt : (r : Int) < dn
      · refine ifT (decide_eq_true hlt) ⟨_, rfl, _, hp2, ?_, ks ++ [i], ?_, ?_, ?_, ?_, ?_⟩
        · rw [natsV_len, sizeLine_eq]; omega
        · rw [upd_same]
          unfold natsV
          rw [List.map_append]
          show some (HO.lst (_ ++ [V.int (0 + (i : Int))])) = _
          rw [Int.zero_add]; rfl
        · intro j hj
          rcases List.mem_append.mp hj with z | z
          · have := h2 j z; omega
          · have : j = i := by simpa using z
            omega
        · rw [List.length_append, List.length_singleton]; omega
        · exact hb2.kp (Kp.put (fp := [p]) hp2 (fun _ z => by cases z) (by simp)) (by simpa using Ne.symm hpb)
        · exact (h5.trans (k2.mono (by simp))).trans (Kp.put hp2 (fun _ z => by cases z) (by simp))
      · exact ifF (decide_eq_false hlt) ⟨ks, hp2, fun j hj => by have := h2 j hj; omega, by omega, hb2, h5.trans (k2.mono (by simp))⟩
    · rintro H' ⟨ks, h1, h2, h3, h4, h5⟩
      rw [Int.toNat_natCast] at h2 h3 h4
      have hp0 : H p = none := k1.free hp (by simpa using hpb)
      refine q H' p ks hp0 h1 h2 (h4.mono (by omega)) ⟨fun b o e z => ?_, fun b xs e => h5.tups b xs (k1.tups b xs e)⟩
      exact h5.keep b o (k1.keep b o e z) (by have := ne_of_none e hp0; simp only [List.mem_cons, List.not_mem_nil, or_false] at z ⊢; simp [z, this])
abbrev sRecord : Stmt := topS 29
def spRecord : Sp := fun vs H Q _ => ∃ (bx : Addr) (m : Nat), vs = [.ref bx] ∧ Bx H bx m ∧ m ≤ 900000 ∧ ∀ H' p r, H p = none → H' p = some (.tup r) → RecA r → Bx H' bx (m + 101) → Kp [bx] H H' → Q (.ref p) H'
theorem scRecord : FnScope ["_law_box_here", "_law_turn"] ["_law_box_here"] (defScope sRecord) := ⟨rfl, rfl, rfl, by decide +kernel, rfl, by decide +kernel, by decide +kernel⟩
theorem ok_record (T : Tx K mg) (kT : Kn P w K mg base (L2.CX P w) 1 (He.ga K "_law_take") ["_law_box_here", "_law_below"] spTake) (kA : Kn P w K mg base (L2.CX P w) 3 (He.ga K "_law_atom") ["_law_box_here"] (spAtom K)) (F : FnP K "_law_record" "_law_record" sRecord f fd) : FnOk P w K mg base (L2.CX P w) 4 f fd ["_law_box_here"] spRecord := by
  have sc := scRecord
  obtain ⟨_, G__law_take, b__law_take, k__law_take⟩ := kT
  obtain ⟨_, G__law_atom, b__law_atom, k__law_atom⟩ := kA
  refine F.ok sc (fun vs H Q E h => ?_) (fun cdv A outer s H vs Q E hr h => ?_)
  · obtain ⟨_, _, rfl, _⟩ := h
    rfl
  · obtain ⟨bx, m, rfl, hb, hm, q⟩ := h
    refine ⟨_, PSs.nox (pss_one (ps_ret (pe_callTy call_tuple_of (by rfl) (T.fr "tuple" (by decide +kernel)) (by decide +kernel) (pa_cons (pe_lc (own := [("_law_turn", 1)]) (g := gName 1) (tt := tYes) rfl sc.nd (pi_range1 (by rfl) (T.fr "range" (by decide +kernel)) (pa_cons (pe_op op_add pe_int (pe_call G__law_take (hr.mono (by decide)) rfl (T.gw "_law_take" (by decide +kernel)) k__law_take b__law_take .nil passL (pa_cons (pv 0) (pa_cons pe_int pa_nil)))) pa_nil)) (blkOk_by (N := ["_law_box_here", "_law_turn"]) (sc := defScope sRecord) (by decide +kernel)) (fun _ _ _ _ _ => pg_name (i := 1) sc.nd rfl (Or.inl rfl)) (fun _ _ _ _ _ => pts_nil) (fun _ _ _ _ _ => (pe_call G__law_atom (hr.mono (by decide)) rfl (T.gw "_law_atom" (by decide +kernel)) k__law_atom b__law_atom .nil passL (pa_cons (pv 0) pa_nil)))) pa_nil)))), ?_⟩
    refine ⟨_, rfl, bx, m, 8, rfl, hb, by decide, by decide, by omega, fun H1 n hn hb1 k1 => ?_⟩
    refine ⟨_, _, rfl, rfl, 1 + (n : Int), rfl, by omega, by omega, fun p hp => ?_⟩
    have hpb : p ≠ bx := fun z => by
      obtain ⟨_, _, _, e, _⟩ := hb1
      rw [z, e] at hp; cases hp
    refine lc_range (lo := 0) (n := (1 + (n : Int)).toNat) (fun i H' => ∃ r, H' p = some (.lst r) ∧ r.length = i ∧ (∀ v ∈ r, v ∈ menu) ∧ Bx H' bx (m + 1 + i) ∧ Kp [bx, p] H1 H') ⟨[], upd_same, rfl, (fun j hj => by cases hj), hb1.kp (Kp.new (fp := []) hp) (by simp), Kp.new hp⟩ ?_ ?_
    · rintro i H' hi ⟨r, h1, h2, h3, h4, h5⟩
      refine ⟨rfl, ?_⟩
      refine ⟨_, rfl, bx, m + 1 + i, rfl, h4, by omega, fun H2 v hv hb2 k2 => ?_⟩
      have hp2 := k2.keep _ _ h1 (by simpa using hpb)
      refine ⟨r, hp2, by rw [sizeLine_eq]; omega, r ++ [v], upd_same, by simp [h2], ?_, ?_, ?_⟩
      · intro x hx
        rcases List.mem_append.mp hx with z | z
        · exact h3 x z
        · have : x = v := by simpa using z
          rw [this]; exact hv
      · exact hb2.kp (Kp.put (fp := [p]) hp2 (fun _ z => by cases z) (by simp)) (by simpa using Ne.symm hpb)
      · exact (h5.trans (k2.mono (by simp))).trans (Kp.put hp2 (fun _ z => by cases z) (by simp))
    · rintro H' ⟨r, h1, h2, h3, h4, h5⟩
      have e2 : r.length = 1 + n := by rw [h2]; omega
      refine ⟨p, r, rfl, .inl ⟨SqL.of h1, fun t ht => ?_⟩⟩
      have hpb0 : H p = none := k1.free hp (by simpa using hpb)
      have ht1 : H1 t = none := h5.free ht (by
        have n1 : t ≠ p := fun z => by rw [z, h1] at ht; cases ht
        have n2 : t ≠ bx := fun z => by
          obtain ⟨_, _, _, e, _⟩ := h4
          rw [z, e] at ht; cases ht
        simp [n1, n2])
      have ht0 : H t = none := k1.free ht1 (by
        have n2 : t ≠ bx := fun z => by
          obtain ⟨_, _, _, e, _⟩ := hb1
          rw [z, e] at ht1; cases ht1
        simpa using n2)
      refine q _ t r ht0 upd_same ⟨⟨by omega, by omega⟩, h3⟩ ((h4.mono (by omega)).kp (Kp.new (fp := []) ht) (by simp)) ⟨fun b o e z => ?_, fun b xs e => ?_⟩
      · exact at_new ht (h5.keep b o (k1.keep b o e z) (by have := ne_of_none e hpb0; simp only [List.mem_cons, List.not_mem_nil, or_false] at z ⊢; simp [z, this]))
      · exact at_new ht (h5.tups b xs (k1.tups b xs e))

/-! ### _law_packed -/
theorem used_sum (g : List (List V)) : (g.map fun r => ((r.length + 1 : Nat) : Int)).sum = ((RM.used List.length g : Nat) : Int) := by
  unfold RM.used
  induction g with
  | nil => rfl
  | cons r g ih =>
    rw [List.map_cons, List.sum_cons, ih, List.map_cons, List.sum_cons]
    omega
abbrev sLPacked : Stmt := topS 30
def spLPacked (K : PySem.W.Frag) : Sp := fun vs H Q _ => ∃ (a : Addr) (us : List V) (rs : List (List V)), vs = [.ref a] ∧ H a = some (.lst us) ∧ Recs H us rs ∧ rs.length ≤ 100 ∧ (∀ r ∈ rs, RecA r) ∧ ∀ H' p gv, H p = none → H' p = some (.lst gv) → Grps H' gv (pk8 rs) → Same H H' → (∀ x ∈ gv, ∃ b, x = .ref b ∧ b ≠ p ∧ H b = none) → Q (.ref p) H'
theorem scLPacked : FnScope ["_law_own", "_law_found", "_law_item", "_law_its"] ["_law_own"] (defScope sLPacked) := ⟨rfl, rfl, rfl, by decide +kernel, rfl, by decide +kernel, by decide +kernel⟩
theorem ok_lpacked (T : Tx K mg) (F : FnP K "_law_packed" "_law_packed" sLPacked f fd) : FnOk P w K mg base (L2.CX P w) 1 f fd ["_law_own"] (spLPacked K) := by
  have sc := scLPacked
  refine F.ok sc (fun vs H Q E h => ?_) (fun cdv A outer s H vs Q E hr h => ?_)
  · obtain ⟨a, us, rs, rfl, _⟩ := h
    rfl
  · obtain ⟨a, us, rs, rfl, ha, hR, hz, hA, k⟩ := h
    have hu : (A.deeper (envOfC "_law_packed" (defScope sLPacked) s.heap.objs.size f cdv)).units + 64 < cLine := by have := hr.un; omega
    refine ⟨_, PSs.nox (pss_cons (ps_set (i := 1) sc.nd rfl (Or.inl rfl) (pe_lst pa_nil))
  (pss_cons (ps_for PassesOwn.never rfl (pi_list (pv 0)) (pg_name (i := 2) sc.nd rfl (Or.inl rfl))
  (pss_cons (ps_if (PW.pt (pw_or (pt_cmpR (op_eqD hu) (pv 1) (pe_lst pa_nil) (nomark _)) (pw_or1 (pt_cmpR op_gt (pe_op op_add (pe_op op_add (pe_callB (cr_sum rfl) (by rfl) (T.fr "sum" (by decide +kernel)) (by decide +kernel) (pa_cons (pe_lc (own := [("_law_its", 3)]) (g := gName 3) (tt := tYes) rfl sc.nd (pi_list (pe_ix ix_list (pv 1) (pe_un un_neg pe_int) (fun _ _ => rfl))) (blkOk_by (N := ["_law_own", "_law_found", "_law_item", "_law_its"]) (sc := defScope sLPacked) (by decide +kernel)) (fun _ _ _ _ _ => pg_name (i := 3) sc.nd rfl (Or.inl rfl)) (fun _ _ _ _ _ => pts_nil) (fun _ _ _ _ _ => (pe_op op_add (pe_callB (call_lenC K (by rfl)) (by rfl) (T.fr "len" (by decide +kernel)) (by decide +kernel) (pa_cons (pv 3) pa_nil)) pe_int))) pa_nil)) (pe_callB call_len (by rfl) (T.fr "len" (by decide +kernel)) (by decide +kernel) (pa_cons (pv 2) pa_nil))) pe_int) pe_int (nomark _)))))
  (pss_one (ps_expr (pe_bm PySem.F.plainAttrs_list PySem.F.slot_list_append PySem.F.type_list_append mt_append (pv 1) (pa_cons (pe_lst pa_nil) pa_nil))))
  pss_nil)
  (pss_one (ps_expr (pe_bm PySem.F.plainAttrs_list PySem.F.slot_list_append PySem.F.type_list_append mt_append (pe_ix ix_list (pv 1) (pe_un un_neg pe_int) (fun _ _ => rfl)) (pa_cons (pv 2) pa_nil))))))
  (pss_one (ps_ret (pv 1))))), ?_⟩
    refine ⟨Nat.zero_le _, fun p hp => ?_⟩
    have s0 : Same H (upd H p (.lst [])) := sameNew hp
    have hlen : us.length = rs.length := pr_len hR
    refine ⟨_, rfl, a, rfl, ⟨_, s0.seq (SqL.of ha)⟩, for_list (K := K) (a := a) (xs := us) (fun i σ H' => ∃ (gv : List V) (v v3 : Option V), σ = [some (.ref a), some (.ref p), v, v3] ∧ H' p = some (.lst gv) ∧ Grps H' gv (pk8 (rs.take i)) ∧ Same H H' ∧ gv.Nodup ∧ ∀ x ∈ gv, ∃ b, x = .ref b ∧ b ≠ p ∧ H b = none)
      ⟨[], none, none, rfl, upd_same, .nil, s0, List.nodup_nil, fun x hx => absurd hx (by simp)⟩ (fun i σ H' _ ⟨_, _, _, _, _, _, s5, _⟩ => s5.seq (SqL.of ha)) ?_ ?_⟩
    · rintro i x σ H' hx ⟨gv, v, v3, rfl, hP, hG, hS, nd, hfr⟩
      obtain ⟨r, hr1, c, rfl, hc⟩ := pr_get hR hx
      have hc' : H' c = some (.tup r) := hS _ _ hc
      have hi : i < us.length := (List.getElem?_eq_some_iff.mp hx).1
      have hgl : gv.length ≤ i := by
        have h1 := pr_len hG
        have h2 : (pk8 (rs.take i)).length ≤ (rs.take i).length := (RM.pack_facts List.length (rs.take i)).2.2
        rw [List.length_take] at h2
        omega
      have e1 : pk8 (rs.take (i + 1)) = RM.pk List.length (pk8 (rs.take i)) r := by
        rw [List.take_add_one, hr1]
        exact RM.pack_snoc List.length _ r
      have hflat : (pk8 (rs.take i)).flatten = rs.take i := (RM.pack_facts List.length (rs.take i)).1
      have hmem : ∀ g ∈ pk8 (rs.take i), (∀ r ∈ g, RecA r) ∧ g.length ≤ 100 := fun g hg => by
        refine ⟨fun r hr => hA r ((List.take_subset _ _) (hflat ▸ List.mem_flatten.mpr ⟨g, hg, hr⟩)), ?_⟩
        have e3 : g.length ≤ (pk8 (rs.take i)).flatten.length := List.Sublist.length_le (List.sublist_flatten_of_mem hg)
        rw [hflat, List.length_take] at e3
        omega
      have hfi := fi_groups hmem
      refine ⟨_, rfl, Nat.zero_le _, fun z0 hz0 => ?_⟩
      have s2 : Same H' (upd H' z0 (.lst [])) := sameNew hz0
      refine ⟨.list ((pk8 (rs.take i)).map datL), .list [], .lst (SqL.of (s2 _ _ hP)) (dp_groups (hG.same s2) fun g hg => (hmem g hg).1), .lst (SqL.of upd_same) .nil, hfi.shaped (by decide), by decide +kernel, _, rfl, ?_⟩
      have hS2 := hS.trans s2
      have hP2 := s2 _ _ hP
      have hG2 := hG.same s2
      have hc2 := s2 _ _ hc'
      generalize upd H' z0 (.lst []) = H2 at hS2 hP2 hG2 hc2
      by_cases hnil : pk8 (rs.take i) = []
      · refine ifT (by rw [hnil]; rfl) ?_
        have e2 : RM.pk List.length (pk8 (rs.take i)) r = pk8 (rs.take i) ++ [[r]] := by
          unfold RM.pk
          rw [hnil]; rfl
        have ecp : c ≠ p := ne_of hc2 hP2 (by intro z; cases z)
        refine ⟨_, rfl, tyL hP2, Nat.zero_le _, fun q hq => ?_⟩
        have npq : p ≠ q := ne_of_none hP2 hq
        refine ⟨_, _, _, rfl, rfl, (by rw [upd_ne npq]; exact hP2), (by rw [sizeLine_eq]; omega), ?_⟩
        have hQ2 : upd (upd H2 q (.lst [])) p (.lst (gv ++ [.ref q])) q = some (.lst []) := by rw [upd_ne (Ne.symm npq), upd_same]
        have ecq : c ≠ q := ne_of_none hc2 hq
        refine ⟨_, rfl, _, rfl, _, _, _, .ref q, rfl, rfl, SqL.of upd_same, atI_last _ _, tyL hQ2, _, rfl, _, _, _, rfl, rfl, hQ2, (by rw [sizeLine_eq]; simp), ?_⟩
        have hc3 : upd (upd (upd H2 q (.lst [])) p (.lst (gv ++ [.ref q]))) q (.lst ([] ++ [.ref c])) c = some (.tup r) := by
          rw [upd_ne ecq, upd_ne ecp, upd_ne ecq]; exact hc2
        have hq0 : H q = none := hS2.free hq
        have k1 : Kp [p, q] H2 (upd (upd (upd H2 q (.lst [])) p (.lst (gv ++ [.ref q]))) q (.lst ([] ++ [.ref c]))) :=
          ((Kp.new hq).trans (Kp.put (u := .lst gv) (by rw [upd_ne npq]; exact hP2) (fun _ z => by cases z) (by simp))).trans (Kp.put (u := .lst []) hQ2 (fun _ z => by cases z) (by simp))
        refine ⟨gv ++ [.ref q], some (.ref c), _, rfl, by rw [upd_ne npq, upd_same], ?_, fun b o e => ?_, ?_, fun x hx => ?_⟩
        · rw [e1, e2]
          refine pr_append (pr_mem hG2 fun x hx y z => z.kp k1 fun b eb => ?_) (pr_one ⟨q, _, rfl, upd_same, pr_one ⟨c, rfl, hc3⟩⟩)
          obtain ⟨b', eb', n1, n2⟩ := hfr x hx
          have ebb : b = b' := V.ref.inj (eb.symm.trans eb')
          subst ebb
          have nbq : b ≠ q := by
            obtain ⟨a1, vs1, z1, z2, _⟩ := z
            have : b = a1 := V.ref.inj (eb.symm.trans z1)
            subst this
            exact ne_of_none z2 hq
          simp [n1, nbq]
        · have nb1 := ne_of_none e hp
          have nb2 := ne_of_none e hq0
          exact k1.keep b o (hS2 b o e) (by simp [nb1, nb2])
        · refine List.nodup_append.mpr ⟨nd, by simp, fun x hx y hy => ?_⟩
          have : y = .ref q := by simpa using hy
          subst this
          intro z
          subst z
          obtain ⟨g, _, a1, vs1, z1, z2, _⟩ : ∃ g, g ∈ pk8 (rs.take i) ∧ Grp H2 (.ref q) g := by
            obtain ⟨j, hj, ej⟩ := List.mem_iff_getElem.mp hx
            obtain ⟨g, eg, hg⟩ := pr_get hG2 (show gv[j]? = some (.ref q) by rw [List.getElem?_eq_getElem hj, ej])
            exact ⟨g, List.mem_of_getElem? eg, hg⟩
          cases z1
          rw [hq] at z2; cases z2
        · rcases List.mem_append.mp hx with z | z
          · exact hfr x z
          · have : x = .ref q := by simpa using z
            exact ⟨q, this, Ne.symm npq, hq0⟩
      · refine ifF (by
          cases hgs : pk8 (rs.take i) with
          | nil => exact absurd hgs hnil
          | cons _ _ => rfl) ?_
        obtain ⟨g, eg⟩ : ∃ g, (pk8 (rs.take i)).getLast? = some g := by
          cases eg : (pk8 (rs.take i)).getLast? with
          | none => exact absurd (by simpa using eg) hnil
          | some g => exact ⟨g, rfl⟩
        have esp := RM.snoc_of eg
        have hG2' := hG2
        rw [esp] at hG2'
        obtain ⟨gv0, x0, egv, hG0, b, vs, rfl, hb, hRb⟩ := pr_snoc hG2'
        subst egv
        have hgl2 : g.length ≤ 100 := (hmem g (by rw [esp]; simp)).2
        have hvl := pr_len hRb
        refine ⟨_, rfl, _, rfl, _, _, _, .ref b, rfl, rfl, SqL.of hP2, atI_last _ _, b, rfl, ⟨_, SqL.of hb⟩, fun D0 hD0 => ?_⟩
        refine lc_list (K := K) (a := b) (xs := vs) (fun j H' => Same H2 H' ∧ H' D0 = some (.lst (((g.take j).map fun r => ((r.length + 1 : Nat) : Int)).map V.int))) ⟨sameNew hD0, by rw [upd_same]; rfl⟩ (fun j H' _ z => SqL.of (z.1 _ _ hb)) ?_ ?_
        · rintro j y H3 hy ⟨s3, h3⟩
          obtain ⟨r2, hr2, c2, rfl, hc2'⟩ := pr_get hRb hy
          refine ⟨rfl, ?_⟩
          refine ⟨_, rfl, _, _, rfl, .inr ⟨_, SqT.of (s3 _ _ hc2'), rfl⟩, _, _, rfl, rfl, _, h3, ?_, fun b2 o e => at_put (ne_of_none e hD0) (s3 _ _ e), ?_⟩
          · rw [List.length_map, List.length_map, List.length_take, sizeLine_eq]; omega
          · rw [upd_same, List.take_add_one, hr2, List.map_append, List.map_append]
            rfl
        · rintro H3 ⟨s3, h3⟩
          rw [hvl, List.take_length] at h3
          refine ⟨D0, _, rfl, SqL.of h3, _, rfl, _, _, rfl, .inr ⟨_, SqT.of (s3 _ _ hc2), rfl⟩, _, _, rfl, rfl, _, _, rfl, rfl, _, _, rfl, rfl, _, rfl, ?_⟩
          have hS2 := hS2.trans s3
          have hP2 := s3 _ _ hP2
          have hG2 := hG2.same s3
          have hc2 := s3 _ _ hc2
          have hb3 := s3 _ _ hb
          have hRb3 := hRb.kp (Kp.same (fp := []) s3)
          have hG03 := Grps.same s3 hG0
          by_cases hbig : RM.used List.length g + r.length + 1 > 19
          · refine ifT (decide_eq_true (by rw [used_sum]; omega)) ?_
            have e2 : RM.pk List.length (pk8 (rs.take i)) r = pk8 (rs.take i) ++ [[r]] := by
              unfold RM.pk
              rw [eg]
              dsimp only
              rw [if_pos hbig]
            generalize hgg : gv0 ++ [V.ref b] = gv at *
            have ecp : c ≠ p := ne_of hc2 hP2 (by intro z; cases z)
            refine ⟨_, rfl, tyL hP2, Nat.zero_le _, fun q hq => ?_⟩
            have npq : p ≠ q := ne_of_none hP2 hq
            refine ⟨_, _, _, rfl, rfl, (by rw [upd_ne npq]; exact hP2), (by rw [sizeLine_eq]; omega), ?_⟩
            have hQ2 : upd (upd H3 q (.lst [])) p (.lst (gv ++ [.ref q])) q = some (.lst []) := by rw [upd_ne (Ne.symm npq), upd_same]
            have ecq : c ≠ q := ne_of_none hc2 hq
            refine ⟨_, rfl, _, rfl, _, _, _, .ref q, rfl, rfl, SqL.of upd_same, atI_last _ _, tyL hQ2, _, rfl, _, _, _, rfl, rfl, hQ2, (by rw [sizeLine_eq]; simp), ?_⟩
            have hc3 : upd (upd (upd H3 q (.lst [])) p (.lst (gv ++ [.ref q]))) q (.lst ([] ++ [.ref c])) c = some (.tup r) := by
              rw [upd_ne ecq, upd_ne ecp, upd_ne ecq]; exact hc2
            have hq0 : H q = none := hS2.free hq
            have k1 : Kp [p, q] H3 (upd (upd (upd H3 q (.lst [])) p (.lst (gv ++ [.ref q]))) q (.lst ([] ++ [.ref c]))) :=
              ((Kp.new hq).trans (Kp.put (u := .lst gv) (by rw [upd_ne npq]; exact hP2) (fun _ z => by cases z) (by simp))).trans (Kp.put (u := .lst []) hQ2 (fun _ z => by cases z) (by simp))
            refine ⟨gv ++ [.ref q], some (.ref c), _, rfl, by rw [upd_ne npq, upd_same], ?_, fun b o e => ?_, ?_, fun x hx => ?_⟩
            · rw [e1, e2]
              refine pr_append (pr_mem hG2 fun x hx y z => z.kp k1 fun b eb => ?_) (pr_one ⟨q, _, rfl, upd_same, pr_one ⟨c, rfl, hc3⟩⟩)
              obtain ⟨b', eb', n1, n2⟩ := hfr x hx
              have ebb : b = b' := V.ref.inj (eb.symm.trans eb')
              subst ebb
              have nbq : b ≠ q := by
                obtain ⟨a1, vs1, z1, z2, _⟩ := z
                have : b = a1 := V.ref.inj (eb.symm.trans z1)
                subst this
                exact ne_of_none z2 hq
              simp [n1, nbq]
            · have nb1 := ne_of_none e hp
              have nb2 := ne_of_none e hq0
              exact k1.keep b o (hS2 b o e) (by simp [nb1, nb2])
            · refine List.nodup_append.mpr ⟨nd, by simp, fun x hx y hy => ?_⟩
              have : y = .ref q := by simpa using hy
              subst this
              intro z
              subst z
              obtain ⟨g, _, a1, vs1, z1, z2, _⟩ : ∃ g, g ∈ pk8 (rs.take i) ∧ Grp H3 (.ref q) g := by
                obtain ⟨j, hj, ej⟩ := List.mem_iff_getElem.mp hx
                obtain ⟨g, eg, hg⟩ := pr_get hG2 (show gv[j]? = some (.ref q) by rw [List.getElem?_eq_getElem hj, ej])
                exact ⟨g, List.mem_of_getElem? eg, hg⟩
              cases z1
              rw [hq] at z2; cases z2
            · rcases List.mem_append.mp hx with z | z
              · exact hfr x z
              · have : x = .ref q := by simpa using z
                exact ⟨q, this, Ne.symm npq, hq0⟩
          · refine ifF (decide_eq_false (by rw [used_sum]; omega)) ?_
            have e2 : RM.pk List.length (pk8 (rs.take i)) r = (pk8 (rs.take i)).dropLast ++ [g ++ [r]] := by
              unfold RM.pk
              rw [eg]
              dsimp only
              rw [if_neg hbig]
            obtain ⟨b', eb', nbp, hb0⟩ := hfr (.ref b) (by simp)
            cases eb'
            have nbc : b ≠ c := ne_of hb3 hc2 (by intro z; cases z)
            refine ⟨_, rfl, _, rfl, _, _, _, .ref b, rfl, rfl, SqL.of hP2, atI_last _ _, tyL hb3, _, rfl, _, _, _, rfl, rfl, hb3, (by rw [sizeLine_eq]; omega), ?_⟩
            have k1 : Kp [b] H3 (upd H3 b (.lst (vs ++ [.ref c]))) := Kp.put (u := .lst vs) hb3 (fun _ z => by cases z) (by simp)
            have hc4 : upd H3 b (.lst (vs ++ [.ref c])) c = some (.tup r) := by rw [upd_ne (Ne.symm nbc)]; exact hc2
            refine ⟨gv0 ++ [.ref b], some (.ref c), _, rfl, by rw [upd_ne (Ne.symm nbp)]; exact hP2, ?_, fun b2 o e => ?_, nd, hfr⟩
            · rw [e1, e2]
              refine pr_append (pr_mem hG03 fun x hx y z => z.kp k1 fun b2 eb => ?_) (pr_one ⟨b, _, rfl, upd_same, pr_append (hRb3.kp k1) (pr_one ⟨c, rfl, hc4⟩)⟩)
              have : b2 ≠ b := fun z => by
                subst z
                subst eb
                have := (List.nodup_append.mp nd).2.2 _ hx (.ref b2) (by simp)
                exact this rfl
              simpa using this
            · exact k1.keep b2 o (hS2 b2 o e) (by simpa using ne_of_none e hb0)
    · rintro σ H' ⟨gv, v, v3, rfl, hP, hG, hS, _, hfr⟩
      rw [show us.length = rs.length from hlen, List.take_length] at hG
      exact ⟨_, rfl, k H' p gv hp hP hG hS hfr⟩
end
end K51
end L2
set_option Elab.async false
set_option linter.all false
set_option maxRecDepth 100000
set_option maxHeartbeats 4000000
/-! KE4: _law_told. -/
namespace L2
open PySem PySem.Spec PyProof.Rows
namespace K51
theorem passes_callL {X : Cx} {W : WX} {E : XK} (tk : Takes X W) (hW : ∀ cls d σ H, σ.length = X.N.length → E cls d H → W cls d σ H) : ∀ (pins : List (Addr × Obj)) (σ : St) (H : Hp) (s : Shared) (e : Value) (s' : Shared), Inv X pins σ H s → CX X.prog X.w X.stack H s E e s' → X.xe e s' :=
  fun _ σ _ _ e s' I c => tk e s' (XE.of_call I (fun cls d H' h => hW cls d σ H' I.len h) c)
theorem sameFree {H H' : Hp} (s : Same H H') {l : Addr} (h : H' l = none) : H l = none := s.free h
/-- what told hands back for a value, for an error -/
def toldN (Q : VK) (v : V) (H' : Hp) : Prop := ∀ H'' p, Same H' H'' → H' p = none → H'' p = some (.tup [.str "told", v]) → Q (.ref p) H''
def toldX (K : PySem.W.Frag) (Q : VK) (x fl : Str) (cls : Value) (dd : Option Addr) (H' : Hp) : Prop := ∃ (n : Int) (ddr : Addr), cls = .ref (He.ga K x) ∧ dd = some ddr ∧ H' ddr = some (.xd [(fl, .int n)]) ∧ ∀ H'' p, Same H' H'' → H' p = none → H'' p = some (.tup [.str x, .int n]) → Q (.ref p) H''
def toldE (K : PySem.W.Frag) (Q : VK) : XK := fun cls dd H' => toldX K Q "Full" "count" cls dd H' ∨ toldX K Q "Gone" "number" cls dd H' ∨ toldX K Q "NoCut" "block" cls dd H' ∨
  (cls = .ref (He.ga K "Stopped") ∧ dd = none ∧ ∀ H'', Same H' H'' → Q (.str "other") H'')
/-- a method's promise, for every wish that these two give -/
def Tells (K : PySem.W.Frag) (sp : Sp) (vs : List V) (H : Hp) (Q : VK) : Prop := ∀ (Q2 : VK) (E2 : XK), (∀ v H', toldN Q v H' → Q2 v H') → (∀ cls dd H', toldE K Q cls dd H' → E2 cls dd H') → sp vs H Q2 E2
section
variable {P : Program} {w : World} {K : PySem.W.Frag} {mg : Str → Option Value} {base : Heap} {f : Addr} {fd : FuncData}
abbrev sTold : Stmt := topS 31
def spTold (K : PySem.W.Frag) : Sp := fun vs H Q _ => ∃ (g q : Addr) (deed : List V), vs = [.ref g, .ref q] ∧ H q = some (.tup deed) ∧ (∃ d c n b nx lr tl, LgI K H g d c n b nx lr tl) ∧
  ((∃ x, deed = [.str "append", x] ∧ Tells K (spAppend K) [.ref g, x] H Q) ∨ (∃ x, deed = [.str "records", x] ∧ Tells K (spRecords K) [.ref g, x] H Q) ∨ (deed = [.str "flush"] ∧ Tells K (spFlush K) [.ref g] H Q) ∨ (∃ x y, deed = [.str "cut", x, y] ∧ Tells K (spCut K) [.ref g, x, y] H Q))
theorem scTold : FnScope ["_law_roll", "_law_deed", "error", "_law_sorts", "_law_bases", "_law_found", "_law_caught", "_law_word"] ["_law_roll", "_law_deed"] (defScope sTold) := ⟨rfl, rfl, rfl, by decide +kernel, rfl, by decide +kernel, by decide +kernel⟩
theorem kxs {H H' : Hp} {a C : Addr} {d : Option Addr} (k : KeptX H a C d) (s : Same H H') : KeptX H' a C d := ⟨s _ _ k.1, fun dd e => by
  obtain ⟨fs, h⟩ := k.2 dd e
  exact ⟨fs, s _ _ h⟩⟩
theorem kx_of {H : Hp} {a C : Addr} (ha : H a = none) : KeptX (upd H a (ExT a (.ref C) none)) a C none := ⟨upd_same, fun _ e => by cases e⟩
theorem kx_of1 {H : Hp} {a C dd : Addr} {fs : List (Str × V)} (ha : H a = none) (hd : H dd = some (.xd fs)) : KeptX (upd H a (ExT a (.ref C) (some dd))) a C (some dd) := ⟨upd_same, fun _ e => by cases e; exact ⟨fs, at_new ha hd⟩⟩
theorem ok_told (T : Tx K mg) (kA : Kn P w K mg base (L2.CX P w) 2 (mL K "append") ["self", "record"] (spAppend K)) (kR : Kn P w K mg base (L2.CX P w) 3 (mL K "records") ["self", "number"] (spRecords K))
    (kF : Kn P w K mg base (L2.CX P w) 6 (mL K "flush") ["self"] (spFlush K)) (kC : Kn P w K mg base (L2.CX P w) 3 (mL K "cut") ["self", "block", "record"] (spCut K)) (F : FnP K "_law_told" "_law_told" sTold f fd) : FnOk P w K mg base (L2.CX P w) 7 f fd ["_law_roll", "_law_deed"] (spTold K) := by
  have sc := scTold
  obtain ⟨_, G_L_append, b_L_append, _⟩ := kA
  obtain ⟨_, G_L_records, b_L_records, _⟩ := kR
  obtain ⟨_, G_L_flush, b_L_flush, _⟩ := kF
  obtain ⟨_, G_L_cut, b_L_cut, _⟩ := kC
  refine F.ok sc (fun vs H Q E h => ?_) (fun cdv A outer s H vs Q E hr h => ?_)
  · obtain ⟨_, _, _, rfl, _⟩ := h
    rfl
  · obtain ⟨g, q, deed, rfl, hq, ⟨d, c, n, b, nx, lr, tl, htl, dx, hg⟩, hdeed⟩ := h
    have hu : (A.deeper (envOfC "_law_told" (defScope sTold) s.heap.objs.size f cdv)).units + 64 < cLine := by have := hr.un; omega
    obtain ⟨tt, htail, hN, hE⟩ : ∃ tt : TS, PSs (cxOf (L2.CX P w) P w K mg base ["_law_roll", "_law_deed", "error", "_law_sorts", "_law_bases", "_law_found", "_law_caught", "_law_word"] "_law_told" (defScope sTold) f cdv A outer s H E).nox ((defBody sTold).drop 2) tt ∧
        (∀ v H' word, toldN Q v H' → tt { nx := fun _ H' => Q .non H', rt := Q } [some (.ref g), some (.ref q), none, none, none, some v, some .non, some word] H') ∧
        (∀ (cls : Value) (dd : Option Addr) (H' : Hp) (σ : St) (a : Addr), toldE K Q cls dd H' → σ.length = 8 → H' a = none → tt { nx := fun _ H' => Q .non H', rt := Q } ((σ.set 6 (some (.ref a))).set 2 none) (upd H' a (ExT a cls dd))) := by
      refine ⟨_, (pss_cons (ps_if (pt_cmp (pc_isN (pv 6)))
  (pss_one (ps_ret (pe_tup (pa_cons pe_str (pa_cons (pv 5) pa_nil)))))
  pss_nil)
  (pss_cons (ps_set (i := 3) sc.nd rfl (Or.inl rfl) (pe_lst (pa_cons (pe_callB call_isX (by rfl) (T.fr "isinstance" (by decide +kernel)) (by decide +kernel) (pa_cons (pv 6) (pa_cons (pe_glob (v := .ref (He.ga K "Full")) (by rfl) (T.gl "Full" (by decide +kernel)) rfl) pa_nil))) (pa_cons (pe_callB call_isX (by rfl) (T.fr "isinstance" (by decide +kernel)) (by decide +kernel) (pa_cons (pv 6) (pa_cons (pe_glob (v := .ref (He.ga K "Gone")) (by rfl) (T.gl "Gone" (by decide +kernel)) rfl) pa_nil))) (pa_cons (pe_callB call_isX (by rfl) (T.fr "isinstance" (by decide +kernel)) (by decide +kernel) (pa_cons (pv 6) (pa_cons (pe_glob (v := .ref (He.ga K "NoCut")) (by rfl) (T.gl "NoCut" (by decide +kernel)) rfl) pa_nil))) pa_nil)))))
  (pss_cons (ps_set (i := 4) sc.nd rfl (Or.inl rfl) (pe_lst (pa_cons (pe_callB call_isX (by rfl) (T.fr "isinstance" (by decide +kernel)) (by decide +kernel) (pa_cons (pv 6) (pa_cons (pe_bltn (v := .ty "OverflowError") (by rfl) (T.fr "OverflowError" (by decide +kernel)) (by decide +kernel) rfl) pa_nil))) (pa_cons (pe_callB call_isX (by rfl) (T.fr "isinstance" (by decide +kernel)) (by decide +kernel) (pa_cons (pv 6) (pa_cons (pe_bltn (v := .ty "LookupError") (by rfl) (T.fr "LookupError" (by decide +kernel)) (by decide +kernel) rfl) pa_nil))) (pa_cons (pe_callB call_isX (by rfl) (T.fr "isinstance" (by decide +kernel)) (by decide +kernel) (pa_cons (pv 6) (pa_cons (pe_bltn (v := .ty "ValueError") (by rfl) (T.fr "ValueError" (by decide +kernel)) (by decide +kernel) rfl) pa_nil))) pa_nil)))))
  (pss_cons (ps_if (PW.pt (pw_or (pt_cmpR op_ne (pe_bm PySem.F.plainAttrs_list PySem.F.slot_list_count PySem.F.type_list_count mt_countB (pv 3) (pa_cons pe_bl pa_nil)) pe_int (nomark _)) (pw_or (pt_cmpR (op_neD hu) (pv 4) (pv 3) (nomark _)) (pw_or1 (pt_val (pe_callB call_isXT (by rfl) (T.fr "isinstance" (by decide +kernel)) (by decide +kernel) (pa_cons (pv 6) (pa_cons (pe_tup (pa_cons (pe_bltn (v := .ty "KeyError") (by rfl) (T.fr "KeyError" (by decide +kernel)) (by decide +kernel) rfl) (pa_cons (pe_bltn (v := .ty "IndexError") (by rfl) (T.fr "IndexError" (by decide +kernel)) (by decide +kernel) rfl) pa_nil))) pa_nil))))))))
  (pss_one (ps_ret pe_str))
  pss_nil)
  (pss_cons (ps_if (pt_val (pe_ix ix_list (pv 3) pe_int (fun _ _ => rfl)))
  (pss_one (ps_ret (pe_tup (pa_cons pe_str (pa_cons (pe_xfT (pv 6)) pa_nil)))))
  pss_nil)
  (pss_one (ps_ret (pe_ifExp (pt_val (pe_ix ix_list (pv 3) pe_int (fun _ _ => rfl))) (pe_tup (pa_cons pe_str (pa_cons (pe_xfT (pv 6)) pa_nil))) (pe_tup (pa_cons pe_str (pa_cons (pe_xfT (pv 6)) pa_nil))))))))))), ?_, ?_⟩
      · intro v H' word hv
        exact ⟨_, rfl, _, rfl, iteT ⟨_, rfl, (by show 2 ≤ sizeLine; decide), fun p hp => hv _ p (sameNew hp) hp upd_same⟩⟩
      · intro cls dd H' σ a he hσ ha
        obtain ⟨x0, x1, x2, x3, x4, x5, x6, x7, rfl⟩ : ∃ x0 x1 x2 x3 x4 x5 x6 x7, σ = [x0, x1, x2, x3, x4, x5, x6, x7] := by
          match σ, hσ with
          | [x0, x1, x2, x3, x4, x5, x6, x7], _ => exact ⟨_, _, _, _, _, _, _, _, rfl⟩
        rcases he with ⟨n, ddr, rfl, rfl, hdd, q⟩ | ⟨n, ddr, rfl, rfl, hdd, q⟩ | ⟨n, ddr, rfl, rfl, hdd, q⟩ | ⟨rfl, rfl, q⟩
        · have kx := kx_of1 (C := He.ga K "Full") ha hdd
          refine ⟨_, rfl, _, rfl, iteF ?_⟩
          refine ⟨_, rfl, a, _, _, _, _, true, rfl, kx, T.eF.ec, .own _, T.kt "Full" (by decide) "Full" (by decide), _, rfl, a, _, _, _, _, false, rfl, kx, T.eF.ec, .own _, T.kt "Full" (by decide) "Gone" (by decide), _, rfl, a, _, _, _, _, false, rfl, kx, T.eF.ec, .own _, T.kt "Full" (by decide) "NoCut" (by decide), (by show 3 ≤ sizeLine; decide), fun l1 hl1 => ?_⟩
          have kx1 := kxs kx (sameNew (o := .lst [.bl true, .bl false, .bl false]) hl1)
          refine ⟨_, rfl, a, _, _, _, _, true, rfl, kx1, T.eF.ec, .ty _, T.kb ("Full", "OverflowError") (by decide) "OverflowError" (by decide), _, rfl, a, _, _, _, _, false, rfl, kx1, T.eF.ec, .ty _, T.kb ("Full", "OverflowError") (by decide) "LookupError" (by decide), _, rfl, a, _, _, _, _, false, rfl, kx1, T.eF.ec, .ty _, T.kb ("Full", "OverflowError") (by decide) "ValueError" (by decide), (by show 3 ≤ sizeLine; decide), fun l2 hl2 => ?_⟩
          have kx2 := kxs kx1 (sameNew (o := .lst [.bl true, .bl false, .bl false]) hl2)
          have hl12 := at_new (x := .lst [.bl true, .bl false, .bl false]) hl2 (show upd _ l1 (.lst [.bl true, .bl false, .bl false]) l1 = some (.lst [.bl true, .bl false, .bl false]) from upd_same)
          refine ⟨_, rfl, tyL hl12, l1, [true, false, false], true, rfl, rfl, SqL.of hl12, rfl, _, rfl, ?_⟩
          refine iteF ?_
          refine ⟨_, rfl, _, rfl, (.list [.bool true, .bool false, .bool false]), (.list [.bool true, .bool false, .bool false]), .lst (SqL.of upd_same) (.cons (.bl _) (.cons (.bl _) (.cons (.bl _) .nil))), .lst (SqL.of hl12) (.cons (.bl _) (.cons (.bl _) (.cons (.bl _) .nil))), by decide +kernel, by decide +kernel, _, rfl, iteF ?_⟩
          refine ⟨_, rfl, (by show 2 ≤ sizeLine; decide), fun tp htp => ?_⟩
          have kx3 := kxs kx2 (sameNew (o := .tup [.ty "KeyError", .ty "IndexError"]) htp)
          have hl13 := at_new (x := .tup [.ty "KeyError", .ty "IndexError"]) htp hl12
          refine ⟨a, _, _, tp, _, _, false, rfl, upd_same, .cons (.ty _) (.cons (.ty _) .nil), kx3, T.eF.ec, T.ka "Full" (by decide), false, rfl, iteF ?_⟩
          have hd3 := (((sameNew ha).trans (sameNew (o := .lst [.bl true, .bl false, .bl false]) hl1)).trans (sameNew (o := .lst [.bl true, .bl false, .bl false]) hl2)).trans (sameNew (o := .tup [.ty "KeyError", .ty "IndexError"]) htp)
          exact ⟨_, rfl, _, _, _, _, rfl, rfl, SqL.of hl13, atI_nat (j := 0) (v := .bl true) rfl, true, rfl, iteT ⟨_, rfl, a, _, _, _, _, rfl, kx3, T.eF.xf, T.fF, hd3 _ _ hdd, (by kernel_rfl), (by show 2 ≤ sizeLine; decide), fun p hp => q _ p (hd3.trans (sameNew hp)) (hd3.free hp) upd_same⟩⟩
        · have kx := kx_of1 (C := He.ga K "Gone") ha hdd
          refine ⟨_, rfl, _, rfl, iteF ?_⟩
          refine ⟨_, rfl, a, _, _, _, _, false, rfl, kx, T.eG.ec, .own _, T.kt "Gone" (by decide) "Full" (by decide), _, rfl, a, _, _, _, _, true, rfl, kx, T.eG.ec, .own _, T.kt "Gone" (by decide) "Gone" (by decide), _, rfl, a, _, _, _, _, false, rfl, kx, T.eG.ec, .own _, T.kt "Gone" (by decide) "NoCut" (by decide), (by show 3 ≤ sizeLine; decide), fun l1 hl1 => ?_⟩
          have kx1 := kxs kx (sameNew (o := .lst [.bl false, .bl true, .bl false]) hl1)
          refine ⟨_, rfl, a, _, _, _, _, false, rfl, kx1, T.eG.ec, .ty _, T.kb ("Gone", "LookupError") (by decide) "OverflowError" (by decide), _, rfl, a, _, _, _, _, true, rfl, kx1, T.eG.ec, .ty _, T.kb ("Gone", "LookupError") (by decide) "LookupError" (by decide), _, rfl, a, _, _, _, _, false, rfl, kx1, T.eG.ec, .ty _, T.kb ("Gone", "LookupError") (by decide) "ValueError" (by decide), (by show 3 ≤ sizeLine; decide), fun l2 hl2 => ?_⟩
          have kx2 := kxs kx1 (sameNew (o := .lst [.bl false, .bl true, .bl false]) hl2)
          have hl12 := at_new (x := .lst [.bl false, .bl true, .bl false]) hl2 (show upd _ l1 (.lst [.bl false, .bl true, .bl false]) l1 = some (.lst [.bl false, .bl true, .bl false]) from upd_same)
          refine ⟨_, rfl, tyL hl12, l1, [false, true, false], true, rfl, rfl, SqL.of hl12, rfl, _, rfl, ?_⟩
          refine iteF ?_
          refine ⟨_, rfl, _, rfl, (.list [.bool false, .bool true, .bool false]), (.list [.bool false, .bool true, .bool false]), .lst (SqL.of upd_same) (.cons (.bl _) (.cons (.bl _) (.cons (.bl _) .nil))), .lst (SqL.of hl12) (.cons (.bl _) (.cons (.bl _) (.cons (.bl _) .nil))), by decide +kernel, by decide +kernel, _, rfl, iteF ?_⟩
          refine ⟨_, rfl, (by show 2 ≤ sizeLine; decide), fun tp htp => ?_⟩
          have kx3 := kxs kx2 (sameNew (o := .tup [.ty "KeyError", .ty "IndexError"]) htp)
          have hl13 := at_new (x := .tup [.ty "KeyError", .ty "IndexError"]) htp hl12
          refine ⟨a, _, _, tp, _, _, false, rfl, upd_same, .cons (.ty _) (.cons (.ty _) .nil), kx3, T.eG.ec, T.ka "Gone" (by decide), false, rfl, iteF ?_⟩
          have hd3 := (((sameNew ha).trans (sameNew (o := .lst [.bl false, .bl true, .bl false]) hl1)).trans (sameNew (o := .lst [.bl false, .bl true, .bl false]) hl2)).trans (sameNew (o := .tup [.ty "KeyError", .ty "IndexError"]) htp)
          refine ⟨_, rfl, _, _, _, _, rfl, rfl, SqL.of hl13, atI_nat (j := 0) (v := .bl false) rfl, false, rfl, iteF ?_⟩
          exact ⟨_, rfl, _, _, _, _, rfl, rfl, SqL.of hl13, atI_nat (j := 1) (v := .bl true) rfl, true, rfl, iteT ⟨_, rfl, a, _, _, _, _, rfl, kx3, T.eG.xf, T.fG, hd3 _ _ hdd, (by kernel_rfl), (by show 2 ≤ sizeLine; decide), fun p hp => q _ p (hd3.trans (sameNew hp)) (hd3.free hp) upd_same⟩⟩
        · have kx := kx_of1 (C := He.ga K "NoCut") ha hdd
          refine ⟨_, rfl, _, rfl, iteF ?_⟩
          refine ⟨_, rfl, a, _, _, _, _, false, rfl, kx, T.eN.ec, .own _, T.kt "NoCut" (by decide) "Full" (by decide), _, rfl, a, _, _, _, _, false, rfl, kx, T.eN.ec, .own _, T.kt "NoCut" (by decide) "Gone" (by decide), _, rfl, a, _, _, _, _, true, rfl, kx, T.eN.ec, .own _, T.kt "NoCut" (by decide) "NoCut" (by decide), (by show 3 ≤ sizeLine; decide), fun l1 hl1 => ?_⟩
          have kx1 := kxs kx (sameNew (o := .lst [.bl false, .bl false, .bl true]) hl1)
          refine ⟨_, rfl, a, _, _, _, _, false, rfl, kx1, T.eN.ec, .ty _, T.kb ("NoCut", "ValueError") (by decide) "OverflowError" (by decide), _, rfl, a, _, _, _, _, false, rfl, kx1, T.eN.ec, .ty _, T.kb ("NoCut", "ValueError") (by decide) "LookupError" (by decide), _, rfl, a, _, _, _, _, true, rfl, kx1, T.eN.ec, .ty _, T.kb ("NoCut", "ValueError") (by decide) "ValueError" (by decide), (by show 3 ≤ sizeLine; decide), fun l2 hl2 => ?_⟩
          have kx2 := kxs kx1 (sameNew (o := .lst [.bl false, .bl false, .bl true]) hl2)
          have hl12 := at_new (x := .lst [.bl false, .bl false, .bl true]) hl2 (show upd _ l1 (.lst [.bl false, .bl false, .bl true]) l1 = some (.lst [.bl false, .bl false, .bl true]) from upd_same)
          refine ⟨_, rfl, tyL hl12, l1, [false, false, true], true, rfl, rfl, SqL.of hl12, rfl, _, rfl, ?_⟩
          refine iteF ?_
          refine ⟨_, rfl, _, rfl, (.list [.bool false, .bool false, .bool true]), (.list [.bool false, .bool false, .bool true]), .lst (SqL.of upd_same) (.cons (.bl _) (.cons (.bl _) (.cons (.bl _) .nil))), .lst (SqL.of hl12) (.cons (.bl _) (.cons (.bl _) (.cons (.bl _) .nil))), by decide +kernel, by decide +kernel, _, rfl, iteF ?_⟩
          refine ⟨_, rfl, (by show 2 ≤ sizeLine; decide), fun tp htp => ?_⟩
          have kx3 := kxs kx2 (sameNew (o := .tup [.ty "KeyError", .ty "IndexError"]) htp)
          have hl13 := at_new (x := .tup [.ty "KeyError", .ty "IndexError"]) htp hl12
          refine ⟨a, _, _, tp, _, _, false, rfl, upd_same, .cons (.ty _) (.cons (.ty _) .nil), kx3, T.eN.ec, T.ka "NoCut" (by decide), false, rfl, iteF ?_⟩
          have hd3 := (((sameNew ha).trans (sameNew (o := .lst [.bl false, .bl false, .bl true]) hl1)).trans (sameNew (o := .lst [.bl false, .bl false, .bl true]) hl2)).trans (sameNew (o := .tup [.ty "KeyError", .ty "IndexError"]) htp)
          refine ⟨_, rfl, _, _, _, _, rfl, rfl, SqL.of hl13, atI_nat (j := 0) (v := .bl false) rfl, false, rfl, iteF ?_⟩
          exact ⟨_, rfl, _, _, _, _, rfl, rfl, SqL.of hl13, atI_nat (j := 1) (v := .bl false) rfl, false, rfl, iteF ⟨_, rfl, a, _, _, _, _, rfl, kx3, T.eN.xf, T.fC, hd3 _ _ hdd, (by kernel_rfl), (by show 2 ≤ sizeLine; decide), fun p hp => q _ p (hd3.trans (sameNew hp)) (hd3.free hp) upd_same⟩⟩
        · have kx := kx_of (C := He.ga K "Stopped") ha
          refine ⟨_, rfl, _, rfl, iteF ?_⟩
          refine ⟨_, rfl, a, _, _, _, _, false, rfl, kx, T.eS.ec, .own _, T.kt "Stopped" (by decide) "Full" (by decide), _, rfl, a, _, _, _, _, false, rfl, kx, T.eS.ec, .own _, T.kt "Stopped" (by decide) "Gone" (by decide), _, rfl, a, _, _, _, _, false, rfl, kx, T.eS.ec, .own _, T.kt "Stopped" (by decide) "NoCut" (by decide), (by show 3 ≤ sizeLine; decide), fun l1 hl1 => ?_⟩
          have kx1 := kxs kx (sameNew (o := .lst [.bl false, .bl false, .bl false]) hl1)
          refine ⟨_, rfl, a, _, _, _, _, false, rfl, kx1, T.eS.ec, .ty _, T.kb ("Stopped", "RuntimeError") (by decide) "OverflowError" (by decide), _, rfl, a, _, _, _, _, false, rfl, kx1, T.eS.ec, .ty _, T.kb ("Stopped", "RuntimeError") (by decide) "LookupError" (by decide), _, rfl, a, _, _, _, _, false, rfl, kx1, T.eS.ec, .ty _, T.kb ("Stopped", "RuntimeError") (by decide) "ValueError" (by decide), (by show 3 ≤ sizeLine; decide), fun l2 hl2 => ?_⟩
          have kx2 := kxs kx1 (sameNew (o := .lst [.bl false, .bl false, .bl false]) hl2)
          have hl12 := at_new (x := .lst [.bl false, .bl false, .bl false]) hl2 (show upd _ l1 (.lst [.bl false, .bl false, .bl false]) l1 = some (.lst [.bl false, .bl false, .bl false]) from upd_same)
          refine ⟨_, rfl, tyL hl12, l1, [false, false, false], true, rfl, rfl, SqL.of hl12, rfl, _, rfl, ?_⟩
          exact iteT (q _ (((sameNew ha).trans (sameNew hl1)).trans (sameNew hl2)))
    have hEx : ∀ cls dd H', toldE K Q cls dd H' → PySem.W.exmAny K cls (catN.map fun y => .ref (He.ga K y)) = some true := by
      intro cls dd H' he
      rcases he with ⟨n, ddr, rfl, _⟩ | ⟨n, ddr, rfl, _⟩ | ⟨n, ddr, rfl, _⟩ | ⟨rfl, _⟩
      · exact T.exm "Full" (by decide)
      · exact T.exm "Gone" (by decide)
      · exact T.exm "NoCut" (by decide)
      · exact T.exm "Stopped" (by decide)
    refine ⟨_, PSs.nox (pss_cons (ps_par3 (i := 5) (j := 6) (l := 7) (by rfl) sc.nd rfl rfl rfl (by decide) (by decide) (by decide) rfl rfl rfl (pa_cons pe_non (pa_cons pe_non (pa_cons (pe_ix ix_tup (pv 1) pe_int (fun _ _ => rfl)) pa_nil))) (by rfl))
      (pss_cons (ps_try_cat (i := 2) (j := 6) (cs := catN.map fun y => .ref (He.ga K y)) rfl rfl rfl sc.nd rfl rfl rfl rfl (by decide) (.cons ⟨rfl, by decide, .inl (T.gl "Full" (by decide +kernel))⟩ (by rfl) (.cons ⟨rfl, by decide, .inl (T.gl "Gone" (by decide +kernel))⟩ (by rfl) (.cons ⟨rfl, by decide, .inl (T.gl "NoBlock" (by decide +kernel))⟩ (by rfl) (.cons ⟨rfl, by decide, .inl (T.gl "NoCut" (by decide +kernel))⟩ (by rfl) (.cons ⟨rfl, by decide, .inl (T.gl "NoLoose" (by decide +kernel))⟩ (by rfl) (.cons ⟨rfl, by decide, .inl (T.gl "NoPlace" (by decide +kernel))⟩ (by rfl) (.cons ⟨rfl, by decide, .inl (T.gl "Stopped" (by decide +kernel))⟩ (by rfl) .nil))))))) (by simp [catN]) (fun W pn xe tk po =>
        pss_one (ps_if (pt_cmpR op_eq (pv 7) pe_str (nomark _))
          (pss_one (ps_set (i := 5) sc.nd rfl (Or.inl rfl) (pe_meth (E := fun cls dd H => ∀ σ : St, σ.length = 8 → W cls dd σ H) (pv 0) T.clL (T.meL "append" (by decide +kernel)) G_L_append (hr.mono (by decide)) b_L_append .nil (passes_callL tk fun cls dd σ H hl h => h σ hl) (pa_cons (pe_ix (ix_tupC K (by rfl)) (pv 1) pe_int (fun _ _ => rfl)) pa_nil))))
          (pss_one (ps_if (pt_cmpR op_eq (pv 7) pe_str (nomark _))
            (pss_one (ps_set (i := 5) sc.nd rfl (Or.inl rfl) (pe_meth (E := fun cls dd H => ∀ σ : St, σ.length = 8 → W cls dd σ H) (pv 0) T.clL (T.meL "records" (by decide +kernel)) G_L_records (hr.mono (by decide)) b_L_records .nil (passes_callL tk fun cls dd σ H hl h => h σ hl) (pa_cons (pe_ix (ix_tupC K (by rfl)) (pv 1) pe_int (fun _ _ => rfl)) pa_nil))))
            (pss_one (ps_set (i := 5) sc.nd rfl (Or.inl rfl) (pe_ifExp (pt_cmpR op_eq (pv 7) pe_str (nomark _))
              (pe_meth0 (E := fun cls dd H => ∀ σ : St, σ.length = 8 → W cls dd σ H) (pv 0) T.clL (T.meL "flush" (by decide +kernel)) G_L_flush (hr.mono (by decide)) b_L_flush .nil (passes_callL tk fun cls dd σ H hl h => h σ hl))
              (pe_meth (E := fun cls dd H => ∀ σ : St, σ.length = 8 → W cls dd σ H) (pv 0) T.clL (T.meL "cut" (by decide +kernel)) G_L_cut (hr.mono (by decide)) b_L_cut .nil (passes_callL tk fun cls dd σ H hl h => h σ hl) (pa_cons (pe_ix (ix_tupC K (by rfl)) (pv 1) pe_int (fun _ _ => rfl)) (pa_cons (pe_ix (ix_tupC K (by rfl)) (pv 1) pe_int (fun _ _ => rfl)) pa_nil)))))))))))
      htail)), ?_⟩
    have hX : ∀ (cls : Value) (dd : Option Addr) (H' : Hp), toldE K Q cls dd H' → ∀ σ : St, σ.length = 8 → wCat K (catN.map fun y => .ref (He.ga K y)) 2 6 { nx := tt { nx := fun _ H' => Q .non H', rt := Q }, rt := Q } cls dd σ H' :=
      fun cls dd H' he σ hσ => ⟨hEx _ _ _ he, fun a ha => hE cls dd H' σ a he hσ ha⟩
    rcases hdeed with ⟨x, rfl, hT⟩ | ⟨x, rfl, hT⟩ | ⟨rfl, hT⟩ | ⟨x, y, rfl, hT⟩
    · refine ⟨_, rfl, _, _, _, _, rfl, rfl, SqT.of hq, atI_nat (j := 0) rfl, _, _, _, rfl, ?_⟩
      exact ⟨_, rfl, rfl, _, rfl, ifT (decide_eq_true rfl) ⟨_, rfl, g, dx, _, rfl, hg, lg_meth htl _ (by decide +kernel), _, rfl, _, _, _, _, rfl, rfl, SqT.of hq, atI_nat (j := 1) rfl, hT _ _ (fun v H2 hv => hN v H2 _ hv) hX⟩⟩
    · refine ⟨_, rfl, _, _, _, _, rfl, rfl, SqT.of hq, atI_nat (j := 0) rfl, _, _, _, rfl, ?_⟩
      refine ⟨_, rfl, rfl, _, rfl, ifF (decide_eq_false (by intro z; have := V.str.inj z; exact absurd this (by decide))) ?_⟩
      exact ⟨_, rfl, rfl, _, rfl, ifT (decide_eq_true rfl) ⟨_, rfl, g, dx, _, rfl, hg, lg_meth htl _ (by decide +kernel), _, rfl, _, _, _, _, rfl, rfl, SqT.of hq, atI_nat (j := 1) rfl, hT _ _ (fun v H2 hv => hN v H2 _ hv) hX⟩⟩
    · refine ⟨_, rfl, _, _, _, _, rfl, rfl, SqT.of hq, atI_nat (j := 0) rfl, _, _, _, rfl, ?_⟩
      refine ⟨_, rfl, rfl, _, rfl, ifF (decide_eq_false (by intro z; have := V.str.inj z; exact absurd this (by decide))) ?_⟩
      refine ⟨_, rfl, rfl, _, rfl, ifF (decide_eq_false (by intro z; have := V.str.inj z; exact absurd this (by decide))) ?_⟩
      refine ⟨_, rfl, rfl, _, rfl, ifT (decide_eq_true rfl) ⟨_, rfl, g, dx, _, rfl, hg, lg_meth htl _ (by decide +kernel), ?_⟩⟩
      exact hT _ _ (fun v H2 hv => hN v H2 _ hv) hX
    · refine ⟨_, rfl, _, _, _, _, rfl, rfl, SqT.of hq, atI_nat (j := 0) rfl, _, _, _, rfl, ?_⟩
      refine ⟨_, rfl, rfl, _, rfl, ifF (decide_eq_false (by intro z; have := V.str.inj z; exact absurd this (by decide))) ?_⟩
      refine ⟨_, rfl, rfl, _, rfl, ifF (decide_eq_false (by intro z; have := V.str.inj z; exact absurd this (by decide))) ?_⟩
      refine ⟨_, rfl, rfl, _, rfl, ifF (decide_eq_false (by intro z; have := V.str.inj z; exact absurd this (by decide))) ⟨_, rfl, g, dx, _, rfl, hg, lg_meth htl _ (by decide +kernel), _, rfl, _, _, _, _, rfl, rfl, SqT.of hq, atI_nat (j := 1) rfl, _, rfl, _, _, _, _, rfl, rfl, SqT.of hq, atI_nat (j := 2) rfl, hT _ _ (fun v H2 hv => hN v H2 _ hv) hX⟩⟩
end
end K51
end L2
set_option Elab.async false
set_option linter.all false
set_option maxRecDepth 100000
set_option maxHeartbeats 4000000
/-! KE5: the law's world; what told tells. -/
namespace L2
open PySem PySem.Spec PyProof.Rows
namespace K51
abbrev Ls := RM.LSt (List V)
def Mk3 (H : Hp) (v : V) (m : Nat × Nat × Nat) : Prop := Rec H v [.int m.1, .int m.2.1, .int m.2.2]
theorem Mk3.kp {fp : List Addr} {H H' : Hp} (k : Kp fp H H') {vs : List V} {ms : List (Nat × Nat × Nat)} (h : Paired (Mk3 H) vs ms) : Paired (Mk3 H') vs ms := Paired.mapP h fun _ _ z => Rec.kp k z
/-- the law's state -/
structure LawS (H : Hp) (s ln mk : Addr) (st : Ls) : Prop where
  hs : ∃ ct, H s = some (.lst [.ref ln, .int st.beg, .int st.needed, .int st.next, .int st.safe, .ref mk, .ref ct]) ∧ Mk3 H (.ref ct) st.cut
  hl : ∃ lv, H ln = some (.lst lv) ∧ Recs H lv st.line
  hm : ∃ mv, H mk = some (.lst mv) ∧ Paired (Mk3 H) mv st.marks
theorem LawS.kp {fp : List Addr} {H H' : Hp} {s ln mk : Addr} {st : Ls} (z : LawS H s ln mk st) (k : Kp fp H H') (h : ∀ x ∈ [s, ln, mk], x ∉ fp) : LawS H' s ln mk st := by
  obtain ⟨⟨ct, h1, h2⟩, ⟨lv, h3, h4⟩, ⟨mv, h5, h6⟩⟩ := z
  exact ⟨⟨ct, k.keep _ _ h1 (h _ (by simp)), Rec.kp k h2⟩, ⟨lv, k.keep _ _ h3 (h _ (by simp)), h4.kp k⟩, ⟨mv, k.keep _ _ h5 (h _ (by simp)), Mk3.kp k h6⟩⟩
/-- the log, the disk, what the law knows of them -/
structure Wd (K : PySem.W.Frag) (H : Hp) (g d k sh lo lr : Addr) (S : Pl) (c E : Nat) (st : Ls) (t : Nat) : Prop where
  L : LgI K H g d c st.needed st.beg st.next lr (tlS E st.safe)
  D : DkAt K H d k sh lo S S [] .non
  hr : ∃ rv, H lr = some (.lst rv) ∧ Recs H rv st.line
  sep : Sep g d k sh lo lr
  good : RM.Good S c E st
  c1 : 3 ≤ c
  c2 : c ≤ 6
  ok : PlOk S
  e0 : S.getD 0 none = none
  e1 : S.getD 1 none = none
  e2 : S.getD (c + 2) none = none
  recs : ∀ r ∈ st.line, RecA r
  b1 : st.beg + st.line.length ≤ t
  n1 : st.next ≤ 100 * t
  t1 : t ≤ 40
  mks : st.marks.length ≤ t + 2
/-- what stood at H0 stands, but the box; the log's objects are younger -/
structure Frm (H0 H : Hp) (bx : Addr) (fp : List Addr) : Prop where
  keep : ∀ b o, H0 b = some o → b ≠ bx → H b = some o
  new : ∀ x ∈ fp, H0 x = none
theorem Frm.kp {H0 H H' : Hp} {bx : Addr} {fp fp0 fp' : List Addr} (f : Frm H0 H bx fp) (k : Kp fp0 H H') (h : ∀ x ∈ fp0, x = bx ∨ H0 x = none) (h' : ∀ x ∈ fp', H0 x = none) : Frm H0 H' bx fp' :=
  ⟨fun b o e n => k.keep b o (f.keep b o e n) (fun z => by
    have hh := h b z
    cases hh with
    | inl h1 => exact n h1
    | inr h1 => rw [h1] at e; cases e), h'⟩
theorem Frm.fresh {H0 H : Hp} {bx x : Addr} {fp : List Addr} {o : HO} (f : Frm H0 H bx fp) (hb : H bx = some o) (h : H x = none) : H0 x = none := by
  cases e : H0 x with
  | none => rfl
  | some u =>
    have hx : x ≠ bx := fun z => by rw [z, hb] at h; cases h
    rw [f.keep x u e hx] at h; cases h
structure All (K : PySem.W.Frag) (H0 H : Hp) (bx s ln mk g d k sh lo lr : Addr) (S : Pl) (c E : Nat) (st : Ls) (t m : Nat) : Prop where
  B : Bx H bx m
  W : Wd K H g d k sh lo lr S c E st t
  Z : LawS H s ln mk st
  apt : ∀ x ∈ [s, ln, mk, bx], x ∉ [k, sh, lo, lr]
  nb : bx ∉ [s, ln, mk]
  fr : Frm H0 H bx [g, d, k, sh, lo, lr]
theorem Wd.kp {K : PySem.W.Frag} {fp : List Addr} {H H' : Hp} {g d k sh lo lr : Addr} {S : Pl} {c E t : Nat} {st : Ls} (w : Wd K H g d k sh lo lr S c E st t) (q : Kp fp H H') (h : ∀ x ∈ [g, d, k, sh, lo, lr], x ∉ fp) : Wd K H' g d k sh lo lr S c E st t := by
  obtain ⟨rv, h1, h2⟩ := w.hr
  exact ⟨w.L.kp q (h _ (by simp)), w.D.kp q (h _ (by simp)) (h _ (by simp)) (h _ (by simp)) (h _ (by simp)), ⟨rv, q.keep _ _ h1 (h _ (by simp)), h2.kp q⟩, w.sep, w.good, w.c1, w.c2, w.ok, w.e0, w.e1, w.e2, w.recs, w.b1, w.n1, w.t1, w.mks⟩
theorem All.same {K : PySem.W.Frag} {H0 H H' : Hp} {bx s ln mk g d k sh lo lr : Addr} {S : Pl} {c E t m : Nat} {st : Ls} (a : All K H0 H bx s ln mk g d k sh lo lr S c E st t m) (q : Same H H') : All K H0 H' bx s ln mk g d k sh lo lr S c E st t m :=
  ⟨a.B.kp (Kp.same (fp := []) q) (by simp), a.W.kp (Kp.same (fp := []) q) (by simp), a.Z.kp (Kp.same (fp := []) q) (by simp), a.apt, a.nb, a.fr.kp (Kp.same (fp := []) q) (by simp) a.fr.new⟩
theorem All.bx_ne {K : PySem.W.Frag} {H0 H : Hp} {bx s ln mk g d k sh lo lr : Addr} {S : Pl} {c E t m : Nat} {st : Ls} (a : All K H0 H bx s ln mk g d k sh lo lr S c E st t m) : ∀ x ∈ [g, d, k, sh, lo, lr], x ∉ [bx] := by
  obtain ⟨_, _, _, hb, _⟩ := a.B
  obtain ⟨_, dx, hg⟩ := a.W.L
  obtain ⟨ddx, wr, hd⟩ := a.W.D.ins
  have h4 := a.apt bx (by simp)
  have n1 := ins_lst hg hb
  have n2 := ins_lst hd hb
  simp only [List.mem_cons, List.not_mem_nil, or_false, not_or] at h4 ⊢
  rintro x (rfl | rfl | rfl | rfl | rfl | rfl)
  · exact n1
  · exact n2
  · exact Ne.symm h4.1
  · exact Ne.symm h4.2.1
  · exact Ne.symm h4.2.2.1
  · exact Ne.symm h4.2.2.2
theorem All.box {K : PySem.W.Frag} {H0 H H' : Hp} {bx s ln mk g d k sh lo lr : Addr} {S : Pl} {c E t m m' : Nat} {st : Ls} (a : All K H0 H bx s ln mk g d k sh lo lr S c E st t m) (q : Kp [bx] H H') (hb : Bx H' bx m') : All K H0 H' bx s ln mk g d k sh lo lr S c E st t m' :=
  ⟨hb, a.W.kp q a.bx_ne, a.Z.kp q (fun x hx => by
    have := a.nb
    intro z
    have : x = bx := by simpa using z
    subst this
    exact a.nb hx), a.apt, a.nb, a.fr.kp q (fun x hx => .inl (by simpa using hx)) a.fr.new⟩
theorem small_z {z : Int} (h1 : -(2 ^ 62) ≤ z) (h2 : z ≤ 2 ^ 62) : z.natAbs.log2 < 1920 := by
  have : z.natAbs < 2 ^ 64 := by omega
  have h := small_int this
  simpa using h
theorem fi_str : ∀ x ∈ (["Gone", "NoCut", "told", "Full"] : List Str), Fi (.str x) 0 20 := by
  have h : (["Gone", "NoCut", "told", "Full"] : List Str).map (fun x => ((PyData.str x).canLay0 && (PyData.str x).showable && decide ((PyData.str x).depth ≤ 0) && decide ((PyData.str x).shown.length ≤ 20))) = (["Gone", "NoCut", "told", "Full"] : List Str).map fun _ => true := by decide +kernel
  intro v hv
  obtain ⟨i, hi, e⟩ := List.mem_iff_getElem.mp hv
  have h2 := congrArg (fun l => l[i]?) h
  simp only [List.getElem?_map, List.getElem?_eq_getElem hi, Option.map_some, e] at h2
  have h3 := Option.some.inj h2
  simp only [Bool.and_eq_true, decide_eq_true_eq] at h3
  exact ⟨h3.1.1.1, h3.1.1.2, h3.1.2, h3.2⟩
theorem fi_told {x : Str} (hx : x ∈ (["Gone", "NoCut", "told", "Full"] : List Str)) {d : PyData} (hd : Fi d 5 60000) : Fi (.tuple [.str x, d]) 20 1000000 := by
  refine (Fi.tuple (n := 5) (B := 60000) fun e he => ?_).mono (by decide) (by show 4 + 2 * 60002 ≤ 1000000; decide)
  rcases List.mem_cons.mp he with rfl | he
  · exact (fi_str x hx).mono (by decide) (by decide)
  · have : e = d := by simpa using he
    rw [this]; exact hd
theorem fi_int {z : Int} (h : z.natAbs.log2 < 1920) : Fi (.int z) 5 60000 := (Fi.int h).mono (by decide) (by decide)
theorem fi_non : Fi .none 5 60000 := ⟨rfl, rfl, by decide, by decide +kernel⟩
section
variable {P : Program} {w : World} {K : PySem.W.Frag} {mg : Str → Option Value} {base : Heap} {f : Addr} {fd : FuncData}
/-- same(found, due), two tuples of a word and a datum -/
theorem same_by {H : Hp} {a b : Addr} {x : Str} {v v2 : V} {d : PyData} {Q : VK} {E : XK} (hx : x ∈ (["Gone", "NoCut", "told", "Full"] : List Str)) (ha : H a = some (.tup [.str x, v])) (hb : H b = some (.tup [.str x, v2])) (h1 : Dp K H v d) (h2 : Dp K H v2 d) (hf : Fi d 5 60000) (q : Q (.bl true) H) : spSame K [.ref a, .ref b] H Q E :=
  ⟨a, b, _, rfl, .tup (SqT.of ha) (.cons (.str _) (.cons h1 .nil)), .tup (SqT.of hb) (.cons (.str _) (.cons h2 .nil)), fi_told hx hf, q⟩
theorem told_gone {H : Hp} {g d q lr : Addr} {c n nx z : Int} {b : Nat} {tl : List (Str × V)} {rv : List V} {Q : VK} {E : XK} (L : LgI K H g d c n b nx lr tl) (hl : H lr = some (.lst rv)) (hq : H q = some (.tup [.str "records", .int z])) (hz : z < b ∨ (b : Int) + rv.length < z) (hn : z.natAbs.log2 < 1920)
    (k : ∀ H' p, Same H H' → H p = none → H' p = some (.tup [.str "Gone", .int z]) → Q (.ref p) H') : spTold K [.ref g, .ref q] H Q E :=
  ⟨g, q, _, rfl, hq, ⟨_, _, _, _, _, _, _, L⟩, .inr (.inl ⟨_, rfl, fun Q2 E2 h1 h2 => ⟨g, d, c, n, nx, b, lr, tl, rv, z, rfl, L, hl, .inr ⟨hz, hn, fun H' dd f1 f2 s => h2 _ _ _ (.inr (.inl ⟨z, dd, rfl, rfl, f2, fun H'' p s2 hp hp2 => k H'' p (s.trans s2) (s.free hp) hp2⟩))⟩⟩⟩)⟩
theorem told_rec {H : Hp} {g d q lr : Addr} {c n nx : Int} {b m : Nat} {tl : List (Str × V)} {rv : List V} {Q : VK} {E : XK} (L : LgI K H g d c n b nx lr tl) (hl : H lr = some (.lst rv)) (hq : H q = some (.tup [.str "records", .int m])) (h1 : b ≤ m) (h2 : m ≤ b + rv.length)
    (k : ∀ H' p l, Same H H' → H p = none → H' p = some (.tup [.str "told", .ref l]) → H' l = some (.lst (rv.drop (m - b))) → Q (.ref p) H') : spTold K [.ref g, .ref q] H Q E :=
  ⟨g, q, _, rfl, hq, ⟨_, _, _, _, _, _, _, L⟩, .inr (.inl ⟨_, rfl, fun Q2 E2 k1 k2 => ⟨g, d, c, n, nx, b, lr, tl, rv, m, rfl, L, hl, .inl ⟨m, rfl, h1, h2, fun H' l f1 f2 s => k1 _ _ fun H'' p s2 hp hp2 => k H'' p l (s.trans s2) (s.free hp) hp2 (s2 _ _ f2)⟩⟩⟩)⟩
theorem told_nocut {H : Hp} {g d q lr : Addr} {c n nx z r : Int} {b : Nat} {tl : List (Str × V)} {rv : List V} {Q : VK} {E : XK} (L : LgI K H g d c n b nx lr tl) (hl : H lr = some (.lst rv)) (hq : H q = some (.tup [.str "cut", .int z, .int r])) (hz : z < n ∨ nx < z) (hn : z.natAbs.log2 < 1920)
    (k : ∀ H' p, Same H H' → H p = none → H' p = some (.tup [.str "NoCut", .int z]) → Q (.ref p) H') : spTold K [.ref g, .ref q] H Q E :=
  ⟨g, q, _, rfl, hq, ⟨_, _, _, _, _, _, _, L⟩, .inr (.inr (.inr ⟨_, _, rfl, fun Q2 E2 h1 h2 => ⟨g, d, c, n, nx, b, lr, tl, rv, z, r, rfl, L, hl, .inr ⟨hz, hn, fun H' dd f1 f2 s => h2 _ _ _ (.inr (.inr (.inl ⟨z, dd, rfl, rfl, f2, fun H'' p s2 hp hp2 => k H'' p (s.trans s2) (s.free hp) hp2⟩)))⟩⟩⟩))⟩
theorem told_cut {H : Hp} {g d q lr : Addr} {c n nx z : Int} {b m : Nat} {tl : List (Str × V)} {rv : List V} {Q : VK} {E : XK} (L : LgI K H g d c n b nx lr tl) (hl : H lr = some (.lst rv)) (hq : H q = some (.tup [.str "cut", .int z, .int m])) (h1 : n ≤ z) (h2 : z ≤ nx) (h3 : b ≤ m) (h4 : m ≤ b + rv.length)
    (k : ∀ H' p l, Kp [g] H H' → H l = none → H' l = some (.lst (rv.drop (m - b))) → LgI K H' g d c z m nx l tl → H p = none → H' p = some (.tup [.str "told", .non]) → Q (.ref p) H') : spTold K [.ref g, .ref q] H Q E := by
  refine ⟨g, q, _, rfl, hq, ⟨_, _, _, _, _, _, _, L⟩, .inr (.inr (.inr ⟨_, _, rfl, fun Q2 E2 k1 k2 => ⟨g, d, c, n, nx, b, lr, tl, rv, z, m, rfl, L, hl, .inl ⟨m, rfl, h1, h2, h3, h4, fun H' l f1 f2 L' kp => k1 _ _ fun H'' p s2 hp hp2 => ?_⟩⟩⟩))⟩
  have hpg : p ≠ g := fun z => by
    obtain ⟨_, dx, hg⟩ := L'
    rw [z, hg] at hp; cases hp
  exact k H'' p l (kp.trans (Kp.same s2)) f1 (s2 _ _ f2) (L'.same s2) (kp.free hp (by simpa using hpg)) hp2
theorem told_app {H : Hp} {g d q lr a : Addr} {c n b nx : Int} {tl : List (Str × V)} {rv r : List V} {Q : VK} {E : XK} (L : LgI K H g d c n b nx lr tl) (hl : H lr = some (.lst rv)) (hq : H q = some (.tup [.str "append", .ref a])) (ha : H a = some (.tup r)) (hz : rv.length ≤ 1000)
    (k : ∀ H' p, Kp [lr] H H' → LgI K H' g d c n b nx lr tl → H' lr = some (.lst (rv ++ [.ref a])) → H p = none → H' p = some (.tup [.str "told", .int (b + rv.length)]) → Q (.ref p) H') : spTold K [.ref g, .ref q] H Q E := by
  refine ⟨g, q, _, rfl, hq, ⟨_, _, _, _, _, _, _, L⟩, .inl ⟨_, rfl, fun Q2 E2 k1 k2 => ⟨g, d, c, n, b, nx, lr, tl, rv, a, r, rfl, L, hl, ha, hz, fun H' L' hl' kp => k1 _ _ fun H'' p s2 hp hp2 => ?_⟩⟩⟩
  have hpl : p ≠ lr := fun z => by rw [z, hl'] at hp; cases hp
  exact k H'' p (kp.trans (Kp.same s2)) (L'.same s2) (s2 _ _ hl') (kp.free hp (by simpa using hpl)) hp2
abbrev sWR : Stmt := topS 32
def spWR (K : PySem.W.Frag) : Sp := fun vs H Q _ => ∃ (H0 : Hp) (bx s ln mk g d k sh lo lr : Addr) (S : Pl) (c E t m : Nat) (st : Ls), vs = [.ref bx, .ref g, .ref s] ∧ All K H0 H bx s ln mk g d k sh lo lr S c E st t m ∧ m ≤ 800000 ∧ ∀ H', All K H0 H' bx s ln mk g d k sh lo lr S c E st t (m + 1) → Kp [bx] H H' → Q (.bl true) H'
theorem scWR : FnScope ["_law_box_here", "_law_roll", "_law_state", "_law_ends", "_law_odd", "_law_spot", "_law_line", "_law_begin", "_law_needed", "_law_next_so"] ["_law_box_here", "_law_roll", "_law_state"] (defScope sWR) := ⟨rfl, rfl, rfl, by decide +kernel, rfl, by decide +kernel, by decide +kernel⟩
theorem ok_wr (T : Tx K mg) (kT : Kn P w K mg base (L2.CX P w) 1 (He.ga K "_law_take") ["_law_box_here", "_law_below"] spTake) (kS : KnG P w K mg base (L2.CX P w) 1 (He.ga K "_law_same") ["_law_found", "_law_due"] (spSame K)) (kD : Kn P w K mg base (L2.CX P w) 7 (He.ga K "_law_told") ["_law_roll", "_law_deed"] (spTold K))
    (F : FnP K "_law_wrong_right" "_law_wrong_right" sWR f fd) : FnG P w K mg base (L2.CX P w) 8 f fd ["_law_box_here", "_law_roll", "_law_state"] (spWR K) := by
  have sc := scWR
  obtain ⟨_, G__law_take, b__law_take, k__law_take⟩ := kT
  obtain ⟨_, G__law_same, b__law_same, k__law_same⟩ := kS
  obtain ⟨_, G__law_told, b__law_told, k__law_told⟩ := kD
  refine okG F sc (fun vs H Q E h => ?_) (fun cdv A outer s H vs Q E hgd hr h => ?_)
  · obtain ⟨_, _, _, _, _, _, _, _, _, _, _, _, _, _, _, _, _, rfl, _⟩ := h
    rfl
  · obtain ⟨H0, bx, s, ln, mk, g, d, k, sh, lo, lr, S, c, E', t, m, st, rfl, a, hm, q⟩ := h
    refine ⟨_, PSs.nox (pss_cons (ps_asg (pe_tup (pa_cons (pe_ix ix_list (pv 2) pe_int (fun _ _ => rfl)) (pa_cons (pe_ix ix_list (pv 2) pe_int (fun _ _ => rfl)) (pa_cons (pe_ix ix_list (pv 2) pe_int (fun _ _ => rfl)) (pa_cons (pe_ix ix_list (pv 2) pe_int (fun _ _ => rfl)) pa_nil))))) (pg_tup rfl (pgs_cons (pg_name (i := 6) sc.nd rfl (Or.inl rfl)) (pgs_cons (pg_name (i := 7) sc.nd rfl (Or.inl rfl)) (pgs_cons (pg_name (i := 8) sc.nd rfl (Or.inl rfl)) (pgs_cons (pg_name (i := 9) sc.nd rfl (Or.inl rfl)) pgs_nil))))))
  (pss_cons (ps_set (i := 3) sc.nd rfl (Or.inl rfl) (pe_op op_add (pv 7) (pe_callB call_len (by rfl) (T.fr "len" (by decide +kernel)) (by decide +kernel) (pa_cons (pv 6) pa_nil))))
  (pss_cons (ps_for PassesOwn.never rfl (pi_tup (pe_tup (pa_cons (pe_op op_sub (pv 7) pe_int) (pa_cons (pe_op op_add (pv 3) pe_int) (pa_cons (pe_un un_neg pe_int) (pa_cons (pe_op op_pow pe_int pe_int) pa_nil)))))) (pg_name (i := 4) sc.nd rfl (Or.inl rfl))
  (pss_one (ps_if (pt_not (pt_val (pe_callG G__law_same hgd (hr.mono (by decide)) rfl (T.gw "_law_same" (by decide +kernel)) k__law_same b__law_same .nil passL (pa_cons (pe_call G__law_told (hr.mono (by decide)) rfl (T.gw "_law_told" (by decide +kernel)) k__law_told b__law_told .nil passL (pa_cons (pv 1) (pa_cons (pe_tup (pa_cons pe_str (pa_cons (pv 4) pa_nil))) pa_nil))) (pa_cons (pe_tup (pa_cons pe_str (pa_cons (pv 4) pa_nil))) pa_nil)))))
  (pss_one (ps_ret pe_bl))
  pss_nil)))
  (pss_cons (ps_for PassesOwn.never rfl (pi_tup (pe_tup (pa_cons (pe_op op_sub (pv 8) pe_int) (pa_cons (pe_op op_add (pv 9) pe_int) (pa_cons (pe_op op_add (pv 9) pe_int) pa_nil))))) (pg_name (i := 4) sc.nd rfl (Or.inl rfl))
  (pss_one (ps_if (pt_not (pt_val (pe_callG G__law_same hgd (hr.mono (by decide)) rfl (T.gw "_law_same" (by decide +kernel)) k__law_same b__law_same .nil passL (pa_cons (pe_call G__law_told (hr.mono (by decide)) rfl (T.gw "_law_told" (by decide +kernel)) k__law_told b__law_told .nil passL (pa_cons (pv 1) (pa_cons (pe_tup (pa_cons pe_str (pa_cons (pv 4) (pa_cons (pv 7) pa_nil)))) pa_nil))) (pa_cons (pe_tup (pa_cons pe_str (pa_cons (pv 4) pa_nil))) pa_nil)))))
  (pss_one (ps_ret pe_bl))
  pss_nil)))
  (pss_cons (ps_set (i := 5) sc.nd rfl (Or.inl rfl) (pe_op op_add (pv 7) (pe_call G__law_take (hr.mono (by decide)) rfl (T.gw "_law_take" (by decide +kernel)) k__law_take b__law_take .nil passL (pa_cons (pv 0) (pa_cons (pe_op op_add (pe_callB call_len (by rfl) (T.fr "len" (by decide +kernel)) (by decide +kernel) (pa_cons (pv 6) pa_nil)) pe_int) pa_nil)))))
  (pss_one (ps_ret (pe_callG G__law_same hgd (hr.mono (by decide)) rfl (T.gw "_law_same" (by decide +kernel)) k__law_same b__law_same .nil passL (pa_cons (pe_call G__law_told (hr.mono (by decide)) rfl (T.gw "_law_told" (by decide +kernel)) k__law_told b__law_told .nil passL (pa_cons (pv 1) (pa_cons (pe_tup (pa_cons pe_str (pa_cons (pv 5) pa_nil))) pa_nil))) (pa_cons (pe_tup (pa_cons pe_str (pa_cons (pe_slice sl_list (pv 6) (po_some (pe_op op_sub (pv 5) (pv 7))) po_none) pa_nil))) pa_nil)))))))))), ?_⟩
    obtain ⟨ct, hs, _⟩ := a.Z.hs
    obtain ⟨lv, hln, hlR⟩ := a.Z.hl
    obtain ⟨rv, hrv, hrR⟩ := a.W.hr
    have e1 := pr_len hlR
    have e2 := pr_len hrR
    have hb1 := a.W.b1
    have hn1 := a.W.n1
    have ht1 := a.W.t1
    have hg2 := a.W.good.n1
    have i0 : atI [V.ref ln, .int st.beg, .int st.needed, .int st.next, .int st.safe, .ref mk, .ref ct] 0 = some (.ref ln) := atI_nat (j := 0) rfl
    have i1 : atI [V.ref ln, .int st.beg, .int st.needed, .int st.next, .int st.safe, .ref mk, .ref ct] 1 = some (.int st.beg) := atI_nat (j := 1) rfl
    have i2 : atI [V.ref ln, .int st.beg, .int st.needed, .int st.next, .int st.safe, .ref mk, .ref ct] 2 = some (.int st.needed) := atI_nat (j := 2) rfl
    have i3 : atI [V.ref ln, .int st.beg, .int st.needed, .int st.next, .int st.safe, .ref mk, .ref ct] 3 = some (.int st.next) := atI_nat (j := 3) rfl
    refine ⟨_, rfl, _, _, _, _, rfl, rfl, SqL.of hs, i0, _, rfl, _, _, _, _, rfl, rfl, SqL.of hs, i1, _, rfl, _, _, _, _, rfl, rfl, SqL.of hs, i2, _, rfl, _, _, _, _, rfl, rfl, SqL.of hs, i3, (by show 4 ≤ sizeLine; decide), fun t0 ht0 => ?_⟩
    refine ⟨t0, _, rfl, SqT.of upd_same, rfl, _, _, rfl, _, _, rfl, _, _, rfl, _, _, rfl, rfl, ?_⟩
    have sA := sameNew (o := .tup [.ref ln, .int st.beg, .int st.needed, .int st.next]) ht0
    refine ⟨_, rfl, _, rfl, _, _, rfl, .inl ⟨_, SqL.of (sA _ _ hln), rfl⟩, _, _, rfl, rfl, ?_⟩
    refine ⟨_, rfl, _, _, rfl, rfl, _, rfl, _, _, rfl, rfl, _, rfl, _, _, rfl, rfl, ⟨by decide, by decide, by decide⟩, (by show 4 ≤ sizeLine; decide), fun t1 ht1 => ?_⟩
    have sB := sA.trans (sameNew (o := .tup [.int ((st.beg : Int) - 1), .int ((st.beg : Int) + lv.length + 1), .int (-7), .int (10 ^ (9 : Int).toNat)]) ht1)
    refine ⟨t1, rfl, ⟨_, SqT.of upd_same⟩, for_tup (K := K) (a := t1) (xs := [.int ((st.beg : Int) - 1), .int ((st.beg : Int) + lv.length + 1), .int (-7), .int (10 ^ (9 : Int).toNat)]) (fun i σ H' => ∃ v : Option V, σ = [some (.ref bx), some (.ref g), some (.ref s), some (.int ((st.beg : Int) + lv.length)), v, none, some (.ref ln), some (.int st.beg), some (.int st.needed), some (.int st.next)] ∧ Same H H' ∧ H' t1 = some (.tup [.int ((st.beg : Int) - 1), .int ((st.beg : Int) + lv.length + 1), .int (-7), .int (10 ^ (9 : Int).toNat)]))
      ⟨none, rfl, sB, upd_same⟩ (fun i σ H' _ ⟨_, _, _, h⟩ => SqT.of h) ?_ ?_⟩
    · rintro i x σ H' hx ⟨v, rfl, sC, hC⟩
      obtain ⟨z, rfl, hz, hzn⟩ : ∃ z : Int, x = .int z ∧ (z < st.beg ∨ (st.beg : Int) + rv.length < z) ∧ z.natAbs.log2 < 1920 := by
        have hm := List.mem_of_getElem? hx
        simp only [List.mem_cons, List.not_mem_nil, or_false] at hm
        rcases hm with rfl | rfl | rfl | rfl
        · exact ⟨_, rfl, .inl (by omega), small_z (by omega) (by omega)⟩
        · exact ⟨_, rfl, .inr (by omega), small_z (by omega) (by omega)⟩
        · exact ⟨_, rfl, .inl (by omega), small_z (by omega) (by omega)⟩
        · exact ⟨_, rfl, .inr (by have : (10 : Int) ^ (9 : Int).toNat = 1000000000 := by decide
                                  omega), by decide +kernel⟩
      have aC := a.same sC
      refine ⟨_, rfl, _, rfl, (by show 2 ≤ sizeLine; decide), fun q1 hq1 => ?_⟩
      have s1 := sameNew (o := .tup [.str "records", .int z]) hq1
      refine told_gone (E := E0) ((aC.same s1).W.L) (s1 _ _ (sC _ _ hrv)) upd_same hz hzn fun H2 p s2 hp hp2 => ?_
      refine ⟨_, rfl, (by show 2 ≤ sizeLine; decide), fun q2 hq2 => ?_⟩
      unfold tNil
      refine same_by (E := E0) (x := "Gone") (by simp) (at_new hq2 hp2) upd_same (.int z) (.int z) (fi_int hzn) ?_
      refine ⟨_, rfl, iteF ⟨_, rfl, ((sC.trans s1).trans s2).trans (sameNew hq2), ?_⟩⟩
      exact at_new hq2 (s2 _ _ (s1 _ _ hC))
    · rintro σ H' ⟨v, rfl, sC, _⟩
      refine ⟨_, rfl, _, _, rfl, rfl, _, rfl, _, _, rfl, rfl, _, rfl, _, _, rfl, rfl, (by show 3 ≤ sizeLine; decide), fun t2 ht2 => ?_⟩
      have sD := sC.trans (sameNew (o := .tup [.int ((st.needed : Int) - 1), .int ((st.next : Int) + 1), .int ((st.next : Int) + 5)]) ht2)
      refine ⟨t2, rfl, ⟨_, SqT.of upd_same⟩, for_tup (K := K) (a := t2) (xs := [.int ((st.needed : Int) - 1), .int ((st.next : Int) + 1), .int ((st.next : Int) + 5)]) (fun i σ H' => ∃ v : Option V, σ = [some (.ref bx), some (.ref g), some (.ref s), some (.int ((st.beg : Int) + lv.length)), v, none, some (.ref ln), some (.int st.beg), some (.int st.needed), some (.int st.next)] ∧ Same H H' ∧ H' t2 = some (.tup [.int ((st.needed : Int) - 1), .int ((st.next : Int) + 1), .int ((st.next : Int) + 5)]))
        ⟨v, rfl, sD, upd_same⟩ (fun i σ H' _ ⟨_, _, _, h⟩ => SqT.of h) ?_ ?_⟩
      · rintro i x σ H' hx ⟨v, rfl, sC, hC⟩
        obtain ⟨z, rfl, hz, hzn⟩ : ∃ z : Int, x = .int z ∧ (z < st.needed ∨ (st.next : Int) < z) ∧ z.natAbs.log2 < 1920 := by
          have hm := List.mem_of_getElem? hx
          simp only [List.mem_cons, List.not_mem_nil, or_false] at hm
          rcases hm with rfl | rfl | rfl
          · exact ⟨_, rfl, .inl (by omega), small_z (by omega) (by omega)⟩
          · exact ⟨_, rfl, .inr (by omega), small_z (by omega) (by omega)⟩
          · exact ⟨_, rfl, .inr (by omega), small_z (by omega) (by omega)⟩
        have aC := a.same sC
        refine ⟨_, rfl, _, rfl, _, rfl, (by show 3 ≤ sizeLine; decide), fun q1 hq1 => ?_⟩
        have s1 := sameNew (o := .tup [.str "cut", .int z, .int st.beg]) hq1
        refine told_nocut (E := E0) ((aC.same s1).W.L) (s1 _ _ (sC _ _ hrv)) upd_same hz hzn fun H2 p s2 hp hp2 => ?_
        refine ⟨_, rfl, (by show 2 ≤ sizeLine; decide), fun q2 hq2 => ?_⟩
        unfold tNil
        refine same_by (E := E0) (x := "NoCut") (by simp) (at_new hq2 hp2) upd_same (.int z) (.int z) (fi_int hzn) ?_
        refine ⟨_, rfl, iteF ⟨_, rfl, ((sC.trans s1).trans s2).trans (sameNew hq2), ?_⟩⟩
        exact at_new hq2 (s2 _ _ (s1 _ _ hC))
      · rintro σ H' ⟨v, rfl, sC, _⟩
        have aC := a.same sC
        refine ⟨_, rfl, _, rfl, _, rfl, _, _, rfl, .inl ⟨_, SqL.of (sC _ _ hln), rfl⟩, _, _, rfl, rfl, bx, m, lv.length + 1, rfl, aC.B, by omega, by omega, by omega, fun H2 r hr1 hb2 k2 => ?_⟩
        have a2 := aC.box k2 hb2
        refine ⟨_, _, rfl, rfl, ?_⟩
        obtain ⟨lv2, hln2, hlR2⟩ := a2.Z.hl
        obtain ⟨rv2, hrv2, hrR2⟩ := a2.W.hr
        have f1 := pr_len hlR2
        have f2 := pr_len hrR2
        refine ⟨_, rfl, _, rfl, (by show 2 ≤ sizeLine; decide), fun q1 hq1 => ?_⟩
        have s1 := sameNew (o := .tup [.str "records", .int ((st.beg : Int) + r)]) hq1
        refine told_rec (E := E0) (m := st.beg + r) (a2.same s1).W.L (s1 _ _ hrv2) (by rw [upd_same]; rfl) (by omega) (by omega) fun H3 p l s3 hp hp3 hl3 => ?_
        have s13 := s1.trans s3
        refine ⟨_, rfl, _, rfl, _, rfl, _, _, rfl, rfl, _, rfl, ln, lv2, rfl, SqL.of (s13 _ _ hln2), fun l2 hl2 => ⟨(by show 2 ≤ sizeLine; decide), fun q2 hq2 => ?_⟩⟩
        have s4 := (sameNew (o := .lst (cutV lv2 (some ((st.beg : Int) + r - st.beg)) none)) hl2).trans (sameNew (o := .tup [.str "told", .ref l2]) hq2)
        have s14 := s13.trans s4
        unfold tNil
        refine same_by (E := E0) (x := "told") (d := datL (st.line.drop r)) (by simp) (s4 _ _ hp3) upd_same (dp_list (s4 _ _ hl3) ?_ ?_) (dp_list (at_new hq2 upd_same) ?_ ?_) ((fi_recs ?_ ?_).mono (by decide) (by decide)) ?_
        · rw [show st.beg + r - st.beg = r by omega]
          exact pr_drop r (hrR2.kp (Kp.same (fp := []) s14))
        · exact fun r2 h2 => a.W.recs r2 (List.drop_subset _ _ h2)
        · rw [show (st.beg : Int) + r - st.beg = ((r : Nat) : Int) by omega, cut_n _ _ (by omega)]
          exact pr_drop r (hlR2.kp (Kp.same (fp := []) (by
            have := s14
            rwa [show (st.beg : Int) + r - st.beg = ((r : Nat) : Int) by omega, cut_n _ _ (by omega)] at this)))
        · exact fun r2 h2 => a.W.recs r2 (List.drop_subset _ _ h2)
        · exact fun r2 h2 => a.W.recs r2 (List.drop_subset _ _ h2)
        · rw [List.length_drop]; omega
        · exact q _ (a2.same s14) (((Kp.same (fp := [bx]) sC).trans k2).trans (Kp.same s14))
end
end K51
end L2
set_option Elab.async false
set_option linter.all false
set_option maxRecDepth 100000
set_option maxHeartbeats 4000000
/-! KE6: _law_flushed. -/
namespace L2
open PySem PySem.Spec PyProof.Rows
namespace K51
theorem put_mem {c : Nat} {p : Pt} : ∀ (qs : List Pt) (S : Pl), some p ∈ RM.put S c qs → some p ∈ S ∨ p ∈ qs
  | [], S, h => .inl h
  | q :: qs, S, h => by
    rcases put_mem qs _ h with h | h
    · rcases List.mem_or_eq_of_mem_set h with h | h
      · exact .inl h
      · cases h; exact .inr List.mem_cons_self
    · exact .inr (List.mem_cons_of_mem _ h)
theorem put_out {c j : Nat} (hc : 0 < c) (hj : j < 2 ∨ c + 2 ≤ j) : ∀ (qs : List Pt) (S : Pl), (RM.put S c qs).getD j none = S.getD j none
  | [], S => rfl
  | q :: qs, S => by
    have := Nat.mod_lt q.num hc
    show (RM.put (S.set (2 + q.num % c) (some q)) c qs).getD j none = _
    rw [put_out hc hj qs, List.getD_eq_getElem?_getD, List.getD_eq_getElem?_getD, List.getElem?_set_ne (by omega)]
theorem plok_put {S : Pl} {c : Nat} {qs : List Pt} (h : PlOk S) (hq : ∀ p ∈ qs, PtOk p) : PlOk (RM.put S c qs) := fun p hp => by
  rcases put_mem qs S hp with h1 | h1
  · exact h p h1
  · exact hq p h1
theorem parts_ok {gs : List (List (List V))} {n E s : Nat} (h : ∀ g ∈ gs, (∀ r ∈ g, RecOk r) ∧ g.length ≤ 100) : ∀ p ∈ RM.parts n E s gs, PtOk p := fun p hp => by
  obtain ⟨i, hi, e⟩ := List.mem_iff_getElem.mp hp
  have := (RM.parts_get E gs n s i p (by rw [List.getElem?_eq_getElem hi, e])).2.2.2
  exact h _ (List.mem_of_getElem? this)
theorem st_eq {R : L2.St → Hp → Prop} {σ σ' : L2.St} {H : Hp} (e : σ = σ') (h : R σ' H) : R σ H := e ▸ h
/-- the groups of what waits -/
theorem groups_ok {rs : List (List V)} (h : ∀ r ∈ rs, RecA r) (hl : rs.length ≤ 100) : (∀ g ∈ pk8 rs, (∀ r ∈ g, RecA r) ∧ g.length ≤ 100) ∧ (pk8 rs).length ≤ rs.length ∧ (pk8 rs).flatten = rs := by
  obtain ⟨a, b, d⟩ := RM.pack_facts List.length rs
  refine ⟨fun g hg => ⟨fun r hr => h r (a ▸ List.mem_flatten.mpr ⟨g, hg, hr⟩), ?_⟩, d, a⟩
  have e3 : g.length ≤ (pk8 rs).flatten.length := List.Sublist.length_le (List.sublist_flatten_of_mem hg)
  rw [show (pk8 rs).flatten = rs from a] at e3
  omega
section
variable {P : Program} {w : World} {K : PySem.W.Frag} {mg : Str → Option Value} {base : Heap} {f : Addr} {fd : FuncData}
theorem All.flw {H0 H : Hp} {bx s ln mk g d k sh lo lr : Addr} {S : Pl} {c E t m : Nat} {st : Ls} (a : All K H0 H bx s ln mk g d k sh lo lr S c E st t m) {rv : List V} (hl : H lr = some (.lst rv)) (hR : Recs H rv st.line) (l : V) (H' : Hp) (k1 : Kp [d] H H') (hD : DkAt K H' d k sh lo S S [] l) :
    FlW K H' g d c st.needed st.next st.beg lr E st.safe k sh lo S S l rv st.line := by
  have hd := a.W.D.ins
  obtain ⟨ddx, wr, hd⟩ := hd
  have nl : lr ≠ d := Ne.symm (ins_lst hd hl)
  have h1 := a.W.good.b1
  have h2 := a.W.good.b2
  have e := pr_len hR
  have hb := a.W.b1
  have ht := a.W.t1
  have c1 := a.W.c1
  have c2 := a.W.c2
  exact ⟨a.W.L.kp k1 (by simpa using a.W.sep.gd), hD, a.W.sep.gd, k1.keep _ _ hl (by simpa using nl), hR.kp k1, h1, by omega, by omega, by omega, by omega, a.W.good.len, fun r hr => (a.W.recs r hr).1, a.W.good.n1⟩
section
variable {H : Hp} {g d q lr : Addr} {c n nx b : Nat} {e s : Nat} {k sh lo : Addr} {kept shown : Pl} {l : V} {rv : List V} {rs : List (List V)} {Q : VK} {E : XK}
theorem told_none (h : FlW K H g d c n nx b lr e s k sh lo kept shown l rv rs) (hq : H q = some (.tup [.str "flush"])) (hgs : pk8 (rs.drop (s - b)) = [])
    (k : ∀ H' p, Same H H' → H p = none → H' p = some (.tup [.str "told", .non]) → Q (.ref p) H') : spTold K [.ref g, .ref q] H Q E :=
  ⟨g, q, _, rfl, hq, ⟨_, _, _, _, _, _, _, h.L⟩, .inr (.inr (.inl ⟨rfl, fun Q2 E2 k1 k2 => ⟨g, d, c, n, nx, b, lr, e, s, _, sh, lo, kept, shown, l, rv, rs, _, rfl, h, rfl, .inl ⟨hgs, fun H' s1 => k1 _ _ fun H'' p s2 hp hp2 => k H'' p (s1.trans s2) (s1.free hp) hp2⟩⟩⟩))⟩
theorem told_full (h : FlW K H g d c n nx b lr e s k sh lo kept shown l rv rs) (hq : H q = some (.tup [.str "flush"])) (hgs : pk8 (rs.drop (s - b)) ≠ []) (hf : n + c < nx + (pk8 (rs.drop (s - b))).length)
    (k : ∀ H' p, Same H H' → H p = none → H' p = some (.tup [.str "Full", .int c]) → Q (.ref p) H') : spTold K [.ref g, .ref q] H Q E :=
  ⟨g, q, _, rfl, hq, ⟨_, _, _, _, _, _, _, h.L⟩, .inr (.inr (.inl ⟨rfl, fun Q2 E2 k1 k2 => ⟨g, d, c, n, nx, b, lr, e, s, _, sh, lo, kept, shown, l, rv, rs, _, rfl, h, rfl, .inr (.inl ⟨hgs, hf, fun H' dd f1 f2 s1 => k2 _ _ _ (.inl ⟨c, dd, rfl, rfl, f2, fun H'' p s2 hp hp2 => k H'' p (s1.trans s2) (s1.free hp) hp2⟩)⟩)⟩⟩))⟩
theorem told_flush (h : FlW K H g d c n nx b lr e s k sh lo kept shown .non rv rs) (hq : H q = some (.tup [.str "flush"])) (hgs : pk8 (rs.drop (s - b)) ≠ []) (hf : nx + (pk8 (rs.drop (s - b))).length ≤ n + c)
    (kk : ∀ H' p k' lo', H k' = none → H lo' = none → LgI K H' g d c n b ((nx + (pk8 (rs.drop (s - b))).length : Nat) : Int) lr (tlS e ((s + (pk8 (rs.drop (s - b))).flatten.length : Nat) : Int)) →
      DkAt K H' d k' sh lo' (RM.put shown c (RM.parts nx e s (pk8 (rs.drop (s - b))))) (RM.put shown c (RM.parts nx e s (pk8 (rs.drop (s - b))))) [] .non → Kp [g, d, sh, lo] H H' → H' p = some (.tup [.str "told", .non]) → Q (.ref p) H') : spTold K [.ref g, .ref q] H Q E := by
  refine ⟨g, q, _, rfl, hq, ⟨_, _, _, _, _, _, _, h.L⟩, .inr (.inr (.inl ⟨rfl, fun Q2 E2 k1 k2 => ⟨g, d, c, n, nx, b, lr, e, s, _, sh, lo, kept, shown, .non, rv, rs, _, rfl, h, rfl, .inr (.inr (.inl ⟨hgs, hf, rfl, fun H' k' lo' f1 f2 L' D' kp => k1 _ _ fun H'' p s2 hp hp2 => ?_⟩))⟩⟩))⟩
  exact kk H'' p k' lo' f1 f2 (L'.same s2) (D'.same s2) (kp.trans (Kp.same s2)) hp2
/-- a flush that fits, groups or none -/
theorem told_fl (h : FlW K H g d c n nx b lr e s k sh lo shown shown .non rv rs) (hq : H q = some (.tup [.str "flush"])) (hf : nx + (pk8 (rs.drop (s - b))).length ≤ n + c)
    (kk : ∀ H' p k' lo', (k' = k ∨ H k' = none) → (lo' = lo ∨ H lo' = none) → LgI K H' g d c n b ((nx + (pk8 (rs.drop (s - b))).length : Nat) : Int) lr (tlS e ((s + (pk8 (rs.drop (s - b))).flatten.length : Nat) : Int)) →
      DkAt K H' d k' sh lo' (RM.put shown c (RM.parts nx e s (pk8 (rs.drop (s - b))))) (RM.put shown c (RM.parts nx e s (pk8 (rs.drop (s - b))))) [] .non → Kp [g, d, sh, lo] H H' → H' p = some (.tup [.str "told", .non]) → Q (.ref p) H') : spTold K [.ref g, .ref q] H Q E := by
  by_cases hgs : pk8 (rs.drop (s - b)) = []
  · refine told_none h hq hgs fun H' p s1 _ hp => kk H' p k lo (.inl rfl) (.inl rfl) ?_ ?_ (Kp.same s1) hp
    · rw [hgs]; exact h.L.same s1
    · rw [hgs]; exact h.D.same s1
  · exact told_flush h hq hgs hf fun H' p k' lo' f1 f2 L' D' kp hp => kk H' p k' lo' (.inr f1) (.inr f2) L' D' kp hp
end
theorem All.tick {H0 H : Hp} {bx s ln mk g d k sh lo lr : Addr} {S : Pl} {c E t m : Nat} {st : Ls} (a : All K H0 H bx s ln mk g d k sh lo lr S c E st t m) (h : t < 40) : All K H0 H bx s ln mk g d k sh lo lr S c E st (t + 1) m := by
  obtain ⟨B, ⟨L, D, h1, sep, good, c1, c2, ok, e0, e1, e2, recs, b1, n1, t1, mks⟩, Z, apt, nb, fr⟩ := a
  exact ⟨B, ⟨L, D, h1, sep, good, c1, c2, ok, e0, e1, e2, recs, by omega, by omega, by omega, by omega⟩, Z, apt, nb, fr⟩
theorem flushed_fin {H0 H H4 H5 : Hp} {bx s ln mk g d k sh lo lr : Addr} {S : Pl} {c E t m : Nat} {st : Ls} {gs : List (List (List V))} {k3 lo3 s' l2 tm ct : Addr} {mv : List V} (a : All K H0 H bx s ln mk g d k sh lo lr S c E st t m) (kp4 : Kp [g, d, sh, lo] H H4)
    (f1 : k3 = k ∨ H k3 = none) (f2 : lo3 = lo ∨ H lo3 = none) (L4 : LgI K H4 g d c st.needed st.beg ((st.next + gs.length : Nat) : Int) lr (tlS E ((st.safe + gs.flatten.length : Nat) : Int))) (D4 : DkAt K H4 d k3 sh lo3 (RM.put S c (RM.parts st.next E st.safe gs)) (RM.put S c (RM.parts st.next E st.safe gs)) [] .non)
    (hgf : gs.flatten = st.line.drop (st.safe - st.beg)) (hgk : ∀ g ∈ gs, (∀ r ∈ g, RecA r) ∧ g.length ≤ 100) (hfit : st.next + gs.length ≤ st.needed + c) (ht40 : t < 40) (hmk : H mk = some (.lst mv)) (hmR : Paired (Mk3 H) mv st.marks) (hct : Mk3 H (.ref ct) st.cut)
    (hs' : H4 s' = none) (hl2 : H4 l2 = none) (s6 : Same H4 H5) (h5s : H5 s' = some (.lst [.ref ln, .int st.beg, .int st.needed, .int ((st.next + gs.length : Nat) : Int), .int ((st.beg + st.line.length : Nat) : Int), .ref l2, .ref ct])) (h5m : H5 l2 = some (.lst (mv ++ [.ref tm])))
    (h5t : H5 tm = some (.tup [.int ((st.next + gs.length : Nat) : Int), .int ((st.beg + st.line.length : Nat) : Int), .int E])) : All K H0 H5 bx s' ln l2 g d k3 sh lo3 lr (RM.put S c (RM.parts st.next E st.safe gs)) c E (RM.flushed st gs E) (t + 1) m := by
  obtain ⟨lv, hln, hlR⟩ := a.Z.hl
  obtain ⟨rv, hrv, hrR⟩ := a.W.hr
  obtain ⟨xb, yb, zb, hbx, hb0, hbm⟩ := a.B
  have hap := a.apt
  obtain ⟨_, gdx, hgg⟩ := a.W.L
  obtain ⟨ddx, wr, hdd⟩ := a.W.D.ins
  have c1 := a.W.c1
  have c2 := a.W.c2
  have sp := a.W.sep
  have hb1 := a.W.b1
  have hg1 := a.W.good.b1
  have hg2 := a.W.good.b2
  have hml := pr_len hmR
  have hmks := a.W.mks
  have nfp : ∀ x ∈ [s, ln, mk, bx], ∀ xs, H x = some (.lst xs) → x ∉ [g, d, sh, lo] := fun x hx xs hxx => by
    have h1 := hap x hx
    have h2 := Ne.symm (ins_lst hgg hxx)
    have h3 := Ne.symm (ins_lst hdd hxx)
    simp only [List.mem_cons, List.not_mem_nil, or_false, not_or] at h1 ⊢
    exact ⟨h2, h3, h1.2.1, h1.2.2.1⟩
  have hln4 := kp4.keep _ _ hln (nfp ln (by simp) _ hln)
  have hbx4 := kp4.keep _ _ hbx (nfp bx (by simp) _ hbx)
  have nlr : lr ∉ [g, d, sh, lo] := by
    have h2 := Ne.symm (ins_lst hgg hrv)
    have h3 := Ne.symm (ins_lst hdd hrv)
    simp only [List.mem_cons, List.not_mem_nil, or_false, not_or]
    exact ⟨h2, h3, sp.rs, sp.ro⟩
  have hrv4 := kp4.keep _ _ hrv nlr
  have kp6 := kp4.trans (Kp.same (fp := [g, d, sh, lo]) s6)
  have D6 := D4.same s6
  have hfl : st.safe + gs.flatten.length = st.beg + st.line.length := by rw [hgf, List.length_drop]; omega
  rw [hfl] at L4
  obtain ⟨_, hk4, _⟩ := D4.hk
  obtain ⟨_, hsh4, _⟩ := D4.hs
  obtain ⟨_, hlo4, _⟩ := D4.hl
  have old : ∀ x xs, H x = some (.lst xs) → (k3 = k ∨ x ≠ k3) ∧ (lo3 = lo ∨ x ≠ lo3) := fun x xs hx => by
    refine ⟨f1.imp_right fun z y => ?_, f2.imp_right fun z y => ?_⟩
    · rw [← y, hx] at z; cases z
    · rw [← y, hx] at z; cases z
  have apo : ∀ x ∈ [ln, mk, bx], ∀ xs, H x = some (.lst xs) → x ∉ [k3, sh, lo3, lr] := fun x hx xs hxx => by
    have h1 := hap x (List.mem_cons_of_mem _ hx)
    obtain ⟨o1, o2⟩ := old x xs hxx
    simp only [List.mem_cons, List.not_mem_nil, or_false, not_or] at h1 ⊢
    refine ⟨?_, h1.2.1, ?_, h1.2.2.2⟩
    · rcases o1 with rfl | o1
      · exact h1.1
      · exact o1
    · rcases o2 with rfl | o2
      · exact h1.2.2.1
      · exact o2
  have apn : ∀ x, H4 x = none → x ∉ [k3, sh, lo3, lr] := fun x hx => by
    simp only [List.mem_cons, List.not_mem_nil, or_false, not_or]
    refine ⟨fun z => ?_, fun z => ?_, fun z => ?_, fun z => ?_⟩
    · rw [z, hk4] at hx; cases hx
    · rw [z, hsh4] at hx; cases hx
    · rw [z, hlo4] at hx; cases hx
    · rw [z, hrv4] at hx; cases hx
  refine ⟨⟨xb, yb, zb, s6 _ _ hbx4, hb0, hbm⟩, ⟨L4.same s6, D6, ⟨rv, s6 _ _ hrv4, hrR.kp kp6⟩, ⟨sp.gd, ?_, sp.rs, ?_⟩, RM.good_flush a.W.good hgf hfit, c1, c2, plok_put a.W.ok (parts_ok fun g hg => ⟨fun r hr => ((hgk g hg).1 r hr).1, (hgk g hg).2⟩), ?_, ?_, ?_, a.W.recs, ?_, ?_, by omega, ?_⟩, ⟨⟨ct, h5s, Rec.kp kp6 hct⟩, ⟨lv, s6 _ _ hln4, hlR.kp kp6⟩, ⟨_, h5m, ?_⟩⟩, ?_, ?_, a.fr.kp kp6 (fun x hx => .inr (a.fr.new x (by simp only [List.mem_cons, List.not_mem_nil, or_false] at hx ⊢; rcases hx with h | h | h | h <;> simp [h]))) ?_⟩
  · have := (old lr rv hrv).1
    rcases this with rfl | h
    · exact sp.rk
    · exact h
  · have := (old lr rv hrv).2
    rcases this with rfl | h
    · exact sp.ro
    · exact h
  · rw [put_out (by omega) (by omega)]; exact a.W.e0
  · rw [put_out (by omega) (by omega)]; exact a.W.e1
  · rw [put_out (by omega) (by omega)]; exact a.W.e2
  · show st.beg + st.line.length ≤ t + 1
    omega
  · show st.next + gs.length ≤ 100 * (t + 1)
    have hn1 := a.W.n1
    have hgn := a.W.good.n1
    omega
  · show (st.marks ++ [_]).length ≤ t + 1 + 2
    rw [List.length_append, List.length_singleton]; omega
  · exact pr_append (Mk3.kp kp6 hmR) (pr_one ⟨tm, rfl, h5t⟩)
  · intro x hx
    simp only [List.mem_cons, List.not_mem_nil, or_false] at hx
    rcases hx with rfl | rfl | rfl | rfl
    · exact apn _ hs'
    · exact apo _ (by simp) _ hln
    · exact apn _ hl2
    · exact apo _ (by simp) _ hbx
  · have nb := a.nb
    simp only [List.mem_cons, List.not_mem_nil, or_false, not_or] at nb ⊢
    refine ⟨fun z => ?_, nb.2.1, fun z => ?_⟩
    · rw [← z, hbx4] at hs'; cases hs'
    · rw [← z, hbx4] at hl2; cases hl2
  · intro x hx
    simp only [List.mem_cons, List.not_mem_nil, or_false] at hx
    rcases hx with rfl | rfl | rfl | rfl | rfl | rfl
    · exact a.fr.new _ (by simp)
    · exact a.fr.new _ (by simp)
    · rcases f1 with rfl | f1
      · exact a.fr.new _ (by simp)
      · exact a.fr.fresh hbx f1
    · exact a.fr.new _ (by simp)
    · rcases f2 with rfl | f2
      · exact a.fr.new _ (by simp)
      · exact a.fr.fresh hbx f2
    · exact a.fr.new _ (by simp)
abbrev sFlushed : Stmt := topS 33
/-- what a step leaves -/
def StepOut (K : PySem.W.Frag) (H0 : Hp) (bx g d : Addr) (c E t m : Nat) (Q : VK) : Prop := ∀ H' s' ln' mk' k' sh' lo' lr' S' st', All K H0 H' bx s' ln' mk' g d k' sh' lo' lr' S' c E st' (t + 1) m → Q (.ref s') H'
def spFlushed (K : PySem.W.Frag) : Sp := fun vs H Q _ => ∃ (H0 : Hp) (bx s ln mk g d k sh lo lr : Addr) (S : Pl) (c E t m : Nat) (st : Ls), vs = [.ref g, .ref s, .int c] ∧ All K H0 H bx s ln mk g d k sh lo lr S c E st t m ∧ t < 40 ∧ StepOut K H0 bx g d c E t m Q
theorem scFlushed : FnScope ["_law_roll", "_law_state", "_law_ring", "_law_few", "_law_fine", "_law_ends", "_law_line", "_law_begin", "_law_needed", "_law_next_so", "_law_safe_so", "_law_marks", "_law_cut_so"] ["_law_roll", "_law_state", "_law_ring"] (defScope sFlushed) := ⟨rfl, rfl, rfl, by decide +kernel, rfl, by decide +kernel, by decide +kernel⟩
theorem ok_flushed (T : Tx K mg) (kP : Kn P w K mg base (L2.CX P w) 1 (He.ga K "_law_packed") ["_law_own"] (spLPacked K)) (kS : KnG P w K mg base (L2.CX P w) 1 (He.ga K "_law_same") ["_law_found", "_law_due"] (spSame K)) (kD : Kn P w K mg base (L2.CX P w) 7 (He.ga K "_law_told") ["_law_roll", "_law_deed"] (spTold K)) (kE : Kn P w K mg base (L2.CX P w) 1 (mL K "epoch") ["self"] (spEpoch K))
    (F : FnP K "_law_flushed" "_law_flushed" sFlushed f fd) : FnG P w K mg base (L2.CX P w) 8 f fd ["_law_roll", "_law_state", "_law_ring"] (spFlushed K) := by
  have sc := scFlushed
  obtain ⟨_, G__law_packed, b__law_packed, k__law_packed⟩ := kP
  obtain ⟨_, G__law_same, b__law_same, k__law_same⟩ := kS
  obtain ⟨_, G__law_told, b__law_told, k__law_told⟩ := kD
  obtain ⟨_, G_L_epoch, b_L_epoch, _⟩ := kE
  refine okG F sc (fun vs H Q E h => ?_) (fun cdv A outer s H vs Q E hgd hr h => ?_)
  · obtain ⟨_, _, _, _, _, _, _, _, _, _, _, _, _, _, _, _, _, rfl, _⟩ := h
    rfl
  · obtain ⟨H0, bx, s, ln, mk, g, d, k, sh, lo, lr, S, c, E', t, m, st, rfl, a, ht40, q⟩ := h
    refine ⟨_, PSs.nox (pss_cons (ps_asg (pv 1) (pg_lst (n := 7) rfl (pgs_cons (pg_name (i := 6) sc.nd rfl (Or.inl rfl)) (pgs_cons (pg_name (i := 7) sc.nd rfl (Or.inl rfl)) (pgs_cons (pg_name (i := 8) sc.nd rfl (Or.inl rfl)) (pgs_cons (pg_name (i := 9) sc.nd rfl (Or.inl rfl)) (pgs_cons (pg_name (i := 10) sc.nd rfl (Or.inl rfl)) (pgs_cons (pg_name (i := 11) sc.nd rfl (Or.inl rfl)) (pgs_cons (pg_name (i := 12) sc.nd rfl (Or.inl rfl)) pgs_nil)))))))))
  (pss_cons (ps_set (i := 3) sc.nd rfl (Or.inl rfl) (pe_callB call_len (by rfl) (T.fr "len" (by decide +kernel)) (by decide +kernel) (pa_cons (pe_call G__law_packed (hr.mono (by decide)) rfl (T.gw "_law_packed" (by decide +kernel)) k__law_packed b__law_packed .nil passL (pa_cons (pe_slice sl_list (pv 6) (po_some (pe_op op_sub (pv 10) (pv 7))) po_none) pa_nil)) pa_nil)))
  (pss_cons (ps_set (i := 4) sc.nd rfl (Or.inl rfl) (pe_cmpR op_le (pe_op op_sub (pe_op op_add (pv 9) (pv 3)) (pv 8)) (pv 2) (nomark _)))
  (pss_cons (ps_if (pt_not (pt_val (pe_callG G__law_same hgd (hr.mono (by decide)) rfl (T.gw "_law_same" (by decide +kernel)) k__law_same b__law_same .nil passL (pa_cons (pe_call G__law_told (hr.mono (by decide)) rfl (T.gw "_law_told" (by decide +kernel)) k__law_told b__law_told .nil passL (pa_cons (pv 0) (pa_cons (pe_tup (pa_cons pe_str pa_nil)) pa_nil))) (pa_cons (pe_ifExp (pt_val (pv 4)) (pe_tup (pa_cons pe_str (pa_cons pe_non pa_nil))) (pe_tup (pa_cons pe_str (pa_cons (pv 2) pa_nil)))) pa_nil)))))
  (pss_one (ps_ret pe_non))
  pss_nil)
  (pss_cons (ps_if (pt_not (pt_val (pv 4)))
  (pss_one (ps_ret (pv 1)))
  pss_nil)
  (pss_cons (ps_set (i := 5) sc.nd rfl (Or.inl rfl) (pe_op op_add (pv 7) (pe_callB call_len (by rfl) (T.fr "len" (by decide +kernel)) (by decide +kernel) (pa_cons (pv 6) pa_nil))))
  (pss_one (ps_ret (pe_lst (pa_cons (pv 6) (pa_cons (pv 7) (pa_cons (pv 8) (pa_cons (pe_op op_add (pv 9) (pv 3)) (pa_cons (pv 5) (pa_cons (pe_op op_cat (pv 11) (pe_lst (pa_cons (pe_tup (pa_cons (pe_op op_add (pv 9) (pv 3)) (pa_cons (pv 5) (pa_cons (pe_meth0 (pv 0) T.clL (T.meL "epoch" (by decide +kernel)) G_L_epoch (hr.mono (by decide)) b_L_epoch .nil passL) pa_nil)))) pa_nil))) (pa_cons (pv 12) pa_nil)))))))))))))))), ?_⟩
    obtain ⟨ct, hs, hct⟩ := a.Z.hs
    obtain ⟨lv, hln, hlR⟩ := a.Z.hl
    obtain ⟨mv, hmk, hmR⟩ := a.Z.hm
    obtain ⟨rv, hrv, hrR⟩ := a.W.hr
    have e1 := pr_len hlR
    have e2 := pr_len hrR
    have hb1 := a.W.b1
    have hn1 := a.W.n1
    have hg1 := a.W.good.b1
    have hg2 := a.W.good.b2
    have hg3 := a.W.good.n1
    refine ⟨_, rfl, s, _, rfl, SqL.of hs, rfl, _, _, rfl, _, _, rfl, _, _, rfl, _, _, rfl, _, _, rfl, _, _, rfl, _, _, rfl, rfl, ?_⟩
    refine st_eq (σ' := [some (.ref g), some (.ref s), some (.int c), none, none, none, some (.ref ln), some (.int st.beg), some (.int st.needed), some (.int st.next), some (.int st.safe), some (.ref mk), some (.ref ct)]) rfl ?_
    refine ⟨_, rfl, _, rfl, _, rfl, _, _, rfl, rfl, _, rfl, ln, lv, rfl, SqL.of hln, fun p0 hp0 => ?_⟩
    have ecut : cutV lv (some ((st.safe : Int) - (st.beg : Int))) none = lv.drop (st.safe - st.beg) := by rw [show (st.safe : Int) - (st.beg : Int) = ((st.safe - st.beg : Nat) : Int) by omega, cut_n _ _ (by omega)]
    rw [ecut]
    have s0 := sameNew (o := .lst (lv.drop (st.safe - st.beg))) hp0
    have hA := fun r (h2 : r ∈ st.line.drop (st.safe - st.beg)) => a.W.recs r (List.drop_subset _ _ h2)
    have hdl : (st.line.drop (st.safe - st.beg)).length ≤ 100 := by rw [List.length_drop]; omega
    refine ⟨p0, _, st.line.drop (st.safe - st.beg), rfl, upd_same, pr_drop _ (hlR.kp (Kp.same (fp := []) s0)), hdl, hA, fun H1 pg gv hpg hpg1 hG s1 _ => ?_⟩
    obtain ⟨hgk, hgle, hgf⟩ := groups_ok hA hdl
    generalize hgs : pk8 (st.line.drop (st.safe - st.beg)) = gs at *
    have hgl := pr_len hG
    have s01 := s0.trans s1
    have a1 := a.same s01
    refine ⟨_, _, rfl, .inl ⟨_, SqL.of hpg1, rfl⟩, ?_⟩
    refine ⟨_, rfl, _, rfl, _, _, rfl, rfl, _, rfl, _, _, rfl, rfl, _, rfl, _, _, rfl, rfl, ?_⟩
    refine ⟨_, rfl, (by show 1 ≤ sizeLine; decide), fun q1 hq1 => ?_⟩
    have s2 := sameNew (o := .tup [.str "flush"]) hq1
    have s02 := s01.trans s2
    have a2 := a.same s02
    have fw := a2.flw (s02 _ _ hrv) (hrR.kp (Kp.same (fp := []) s02)) .non _ (Kp.refl _) a2.W.D
    unfold tNil
    have c1 := a.W.c1
    have c2 := a.W.c2
    have hn2 := a.W.good.n2
    by_cases hfit : st.next + gs.length ≤ st.needed + c
    · refine told_fl (E := E0) fw upd_same (by rw [hgs]; exact hfit) fun H3 p k3 lo3 f1 f2 L3 D3 kp3 hp3 => ?_
      rw [hgs] at L3 D3
      refine ⟨_, rfl, _, rfl, ifT (decide_eq_true (by omega)) ⟨(by show 2 ≤ sizeLine; decide), fun q2 hq2 => ?_⟩⟩
      refine same_by (E := E0) (x := "told") (d := .none) (by simp) (at_new hq2 hp3) upd_same .non .non fi_non ?_
      refine ⟨_, rfl, iteF ?_⟩
      refine ⟨_, rfl, _, rfl, ifF (by rw [decide_eq_true (by omega)]; rfl) ?_⟩
      have s4 := sameNew (o := .tup [.str "told", .non]) hq2
      have L4 := L3.same s4
      have D4 := D3.same s4
      have kp4 : Kp [g, d, sh, lo] H (upd H3 q2 (.tup [.str "told", .non])) := ((Kp.same s02).trans kp3).trans (Kp.same s4)
      generalize upd H3 q2 (.tup [.str "told", .non]) = H4 at L4 D4 kp4
      have hap := a.apt
      have hbn := a.bx_ne
      obtain ⟨_, gdx, hgg⟩ := a.W.L
      obtain ⟨ddx, wr, hdd⟩ := a.W.D.ins
      -- the law's lists are not the log's
      have nfp : ∀ x ∈ [s, ln, mk, bx], ∀ xs, H x = some (.lst xs) → x ∉ [g, d, sh, lo] := fun x hx xs hxx => by
        have h1 := hap x hx
        have h2 := Ne.symm (ins_lst hgg hxx)
        have h3 := Ne.symm (ins_lst hdd hxx)
        simp only [List.mem_cons, List.not_mem_nil, or_false, not_or] at h1 ⊢
        exact ⟨h2, h3, h1.2.1, h1.2.2.1⟩
      have hln4 := kp4.keep _ _ hln (nfp ln (by simp) _ hln)
      have hmk4 := kp4.keep _ _ hmk (nfp mk (by simp) _ hmk)
      obtain ⟨xb, yb, zb, hbx, hb0, hbm⟩ := a.B
      have hB4 : Bx H4 bx m := ⟨xb, yb, zb, kp4.keep _ _ hbx (nfp bx (by simp) _ hbx), hb0, hbm⟩
      obtain ⟨ht4, gdx4, hg4⟩ := L4
      refine ⟨_, rfl, _, rfl, _, _, rfl, .inl ⟨_, SqL.of hln4, rfl⟩, _, _, rfl, rfl, ?_⟩
      refine ⟨_, rfl, _, rfl, _, rfl, _, rfl, _, rfl, _, _, rfl, rfl, _, rfl, _, rfl, _, rfl, _, rfl, _, _, rfl, rfl, _, rfl, _, rfl, g, gdx4, _, rfl, hg4, lg_meth ht4 _ (by decide +kernel), ?_⟩
      refine ⟨g, d, c, _, _, _, lr, _, _, rfl, ⟨ht4, gdx4, hg4⟩, (by show 3 ≤ sizeLine; decide), fun tm htm => ⟨(by show 1 ≤ sizeLine; decide), fun l1 hl1 => ?_⟩⟩
      have hml := pr_len hmR
      have hmks := a.W.mks
      have htt := a.W.t1
      refine ⟨mk, l1, mv, _, rfl, rfl, at_new hl1 (at_new htm hmk4), upd_same, (by rw [sizeLine_eq, List.length_singleton]; omega), fun l2 hl2 => ⟨_, rfl, (by show 7 ≤ sizeLine; decide), fun s' hs' => ?_⟩⟩
      have fl2 : H4 l2 = none := ((sameNew (o := .tup [.int ((st.next : Int) + gv.length), .int ((st.beg : Int) + lv.length), .int E']) htm).trans (sameNew (o := .lst [.ref tm]) hl1)).free hl2
      have s5 : Same H4 (upd (upd (upd H4 tm (.tup [.int ((st.next : Int) + gv.length), .int ((st.beg : Int) + lv.length), .int E'])) l1 (.lst [.ref tm])) l2 (.lst (mv ++ [.ref tm]))) := ((sameNew htm).trans (sameNew hl1)).trans (sameNew hl2)
      have h5t : upd (upd (upd H4 tm (.tup [.int ((st.next : Int) + gv.length), .int ((st.beg : Int) + lv.length), .int E'])) l1 (.lst [.ref tm])) l2 (.lst (mv ++ [.ref tm])) tm = some (.tup [.int ((st.next + gs.length : Nat) : Int), .int ((st.beg + st.line.length : Nat) : Int), .int E']) := by
        refine at_new hl2 (at_new hl1 ?_)
        rw [upd_same, hgl, e1]; rfl
      have f1' : k3 = k ∨ H k3 = none := f1.imp_right fun z => s02.free z
      have f2' : lo3 = lo ∨ H lo3 = none := f2.imp_right fun z => s02.free z
      refine q _ s' ln l2 k3 sh lo3 lr _ _ (flushed_fin (mv := mv) (ct := ct) (tm := tm) a kp4 f1' f2' ⟨ht4, gdx4, hg4⟩ D4 hgf hgk hfit ht40 hmk hmR hct (s5.free hs') fl2 (s5.trans (sameNew hs')) ?_ (at_new hs' upd_same) (at_new hs' h5t))
      rw [upd_same, hgl, e1]; rfl
    · have hne : gs ≠ [] := fun z => by rw [z] at hfit; simp at hfit; omega
      refine told_full (E := E0) fw upd_same (by rw [hgs]; exact hne) (by rw [hgs]; omega) fun H3 p s3 _ hp3 => ?_
      refine ⟨_, rfl, _, rfl, ifF (decide_eq_false (by omega)) ⟨_, rfl, (by show 2 ≤ sizeLine; decide), fun q2 hq2 => ?_⟩⟩
      refine same_by (E := E0) (x := "Full") (d := .int c) (by simp) (at_new hq2 hp3) upd_same (.int _) (.int _) (fi_int (small_int (by omega))) ?_
      refine ⟨_, rfl, iteF ?_⟩
      refine ⟨_, rfl, _, rfl, ifT (by rw [decide_eq_false (by omega)]; rfl) ?_⟩
      exact ⟨_, rfl, q _ _ _ _ _ _ _ _ _ _ ((a2.same (s3.trans (sameNew hq2))).tick ht40)⟩
end
end K51
end L2
set_option Elab.async false
set_option linter.all false
set_option maxRecDepth 100000
set_option maxHeartbeats 4000000
/-! KE7: _law_cut. -/
namespace L2
open PySem PySem.Spec PyProof.Rows
namespace K51
section
variable {P : Program} {w : World} {K : PySem.W.Frag} {mg : Str → Option Value} {base : Heap} {f : Addr} {fd : FuncData}
theorem cut_fin {H0 H H5 : Hp} {bx s ln mk g d k sh lo lr : Addr} {S : Pl} {c E t m : Nat} {st : Ls} {mm : Nat × Nat × Nat} {l3 s' ln' mk' tm : Addr} {rv lv fs : List V} (a : All K H0 H bx s ln mk g d k sh lo lr S c E st t m) (hmm : mm ∈ st.marks) (ht : t < 40) (kp : Kp [g] H H5)
    (L5 : LgI K H5 g d c mm.1 mm.2.1 st.next l3 (tlS E st.safe)) (f3 : H l3 = none) (h5l : H5 l3 = some (.lst (rv.drop (mm.2.1 - st.beg)))) (hrR : Recs H rv st.line) (hlR : Recs H lv st.line) (fs' : H s' = none) (fln : H ln' = none) (fmk : H mk' = none) (n1 : s' ≠ l3) (n2 : ln' ≠ l3) (n3 : mk' ≠ l3)
    (h5s : H5 s' = some (.lst [.ref ln', .int mm.2.1, .int mm.1, .int st.next, .int st.safe, .ref mk', .ref tm])) (h5n : H5 ln' = some (.lst (lv.drop (mm.2.1 - st.beg)))) (h5m : H5 mk' = some (.lst fs)) (hfs : Paired (Mk3 H5) fs (st.marks.filter fun x => decide (mm.1 ≤ x.1))) (htm : Mk3 H5 (.ref tm) mm) :
    All K H0 H5 bx s' ln' mk' g d k sh lo l3 S c E (RM.cutAt st mm) (t + 1) m := by
  obtain ⟨xb, yb, zb, hbx, hb0, hbm⟩ := a.B
  obtain ⟨_, gdx, hgg⟩ := a.W.L
  obtain ⟨_, hk, _⟩ := a.W.D.hk
  obtain ⟨_, hsh, _⟩ := a.W.D.hs
  obtain ⟨_, hlo, _⟩ := a.W.D.hl
  have hap := a.apt bx (by simp)
  have sp := a.W.sep
  have hb1 := a.W.b1
  have hn1 := a.W.n1
  have M := a.W.good.marks mm hmm
  have g1 := a.W.good.b1
  have g2 := a.W.good.b2
  have r1 := M.rlo
  have r2 := M.rhi
  have hg := RM.good_cut a.W.good hmm
  have nbg : bx ∉ [g] := by simpa using Ne.symm (ins_lst hgg hbx)
  have apn : ∀ x, H x = none → x ≠ l3 → x ∉ [k, sh, lo, l3] := fun x hx h3 => by
    simp only [List.mem_cons, List.not_mem_nil, or_false, not_or]
    refine ⟨fun z => ?_, fun z => ?_, fun z => ?_, h3⟩
    · rw [z, hk] at hx; cases hx
    · rw [z, hsh] at hx; cases hx
    · rw [z, hlo] at hx; cases hx
  refine ⟨⟨xb, yb, zb, kp.keep _ _ hbx nbg, hb0, hbm⟩, ⟨L5, a.W.D.kp kp (by simpa using Ne.symm sp.gd) (by simpa using Ne.symm (ins_lst hgg hk)) (by simpa using Ne.symm (ins_lst hgg hsh)) (by simpa using Ne.symm (ins_lst hgg hlo)), ⟨_, h5l, pr_drop _ (hrR.kp kp)⟩, ⟨sp.gd, fun z => ?_, fun z => ?_, fun z => ?_⟩, hg, a.W.c1, a.W.c2, a.W.ok, a.W.e0, a.W.e1, a.W.e2, fun r hr => a.W.recs r (List.drop_subset _ _ hr), ?_, ?_, by omega, ?_⟩, ⟨⟨tm, h5s, htm⟩, ⟨_, h5n, pr_drop _ (hlR.kp kp)⟩, ⟨fs, h5m, hfs⟩⟩, ?_, ?_, a.fr.kp kp (fun x hx => .inr (a.fr.new x (by simp only [List.mem_cons, List.not_mem_nil, or_false] at hx ⊢; simp [hx]))) ?_⟩
  · rw [z, hk] at f3; cases f3
  · rw [z, hsh] at f3; cases f3
  · rw [z, hlo] at f3; cases f3
  · show mm.2.1 + (st.line.drop (mm.2.1 - st.beg)).length ≤ t + 1
    rw [List.length_drop]; omega
  · show st.next ≤ 100 * (t + 1)
    omega
  · show (st.marks.filter _).length ≤ t + 1 + 2
    have := List.length_filter_le (fun x : Nat × Nat × Nat => decide (mm.1 ≤ x.1)) st.marks
    have := a.W.mks
    omega
  · intro x hx
    simp only [List.mem_cons, List.not_mem_nil, or_false] at hx
    rcases hx with rfl | rfl | rfl | rfl
    · exact apn _ fs' n1
    · exact apn _ fln n2
    · exact apn _ fmk n3
    · simp only [List.mem_cons, List.not_mem_nil, or_false, not_or] at hap ⊢
      refine ⟨hap.1, hap.2.1, hap.2.2.1, fun z => ?_⟩
      rw [← z, hbx] at f3; cases f3
  · simp only [List.mem_cons, List.not_mem_nil, or_false, not_or]
    refine ⟨fun z => ?_, fun z => ?_, fun z => ?_⟩
    · rw [← z, hbx] at fs'; cases fs'
    · rw [← z, hbx] at fln; cases fln
    · rw [← z, hbx] at fmk; cases fmk
  · intro x hx
    simp only [List.mem_cons, List.not_mem_nil, or_false] at hx
    rcases hx with rfl | rfl | rfl | rfl | rfl | rfl
    · exact a.fr.new _ (by simp)
    · exact a.fr.new _ (by simp)
    · exact a.fr.new _ (by simp)
    · exact a.fr.new _ (by simp)
    · exact a.fr.new _ (by simp)
    · exact a.fr.fresh hbx f3
abbrev sLCut : Stmt := topS 34
def spLCut (K : PySem.W.Frag) : Sp := fun vs H Q _ => ∃ (H0 : Hp) (bx s ln mk g d k sh lo lr : Addr) (S : Pl) (c E t m : Nat) (st : Ls), vs = [.ref bx, .ref g, .ref s] ∧ All K H0 H bx s ln mk g d k sh lo lr S c E st t m ∧ t < 40 ∧ m ≤ 800000 ∧ StepOut K H0 bx g d c E t (m + 1) Q
theorem scLCut : FnScope ["_law_box_here", "_law_roll", "_law_state", "_law_mark", "_law_rest", "_law_line", "_law_begin", "_law_needed", "_law_next_so", "_law_safe_so", "_law_marks", "_law_cut_so", "_law_its"] ["_law_box_here", "_law_roll", "_law_state"] (defScope sLCut) := ⟨rfl, rfl, rfl, by decide +kernel, rfl, by decide +kernel, by decide +kernel⟩
theorem ok_lcut (T : Tx K mg) (kO : Kn P w K mg base (L2.CX P w) 2 (He.ga K "_law_of") ["_law_box_here", "_law_some_here"] (spOf K)) (kS : KnG P w K mg base (L2.CX P w) 1 (He.ga K "_law_same") ["_law_found", "_law_due"] (spSame K)) (kD : Kn P w K mg base (L2.CX P w) 7 (He.ga K "_law_told") ["_law_roll", "_law_deed"] (spTold K))
    (F : FnP K "_law_cut" "_law_cut" sLCut f fd) : FnG P w K mg base (L2.CX P w) 8 f fd ["_law_box_here", "_law_roll", "_law_state"] (spLCut K) := by
  have sc := scLCut
  obtain ⟨_, G__law_of, b__law_of, k__law_of⟩ := kO
  obtain ⟨_, G__law_same, b__law_same, k__law_same⟩ := kS
  obtain ⟨_, G__law_told, b__law_told, k__law_told⟩ := kD
  refine okG F sc (fun vs H Q E h => ?_) (fun cdv A outer s H vs Q E hgd hr h => ?_)
  · obtain ⟨_, _, _, _, _, _, _, _, _, _, _, _, _, _, _, _, _, rfl, _⟩ := h
    rfl
  · obtain ⟨H0, bx, s, ln, mk, g, d, k, sh, lo, lr, S, c, E', t, m, st, rfl, a, ht40, hm, q⟩ := h
    refine ⟨_, PSs.nox (pss_cons (ps_asg (pv 2) (pg_lst (n := 7) rfl (pgs_cons (pg_name (i := 5) sc.nd rfl (Or.inl rfl)) (pgs_cons (pg_name (i := 6) sc.nd rfl (Or.inl rfl)) (pgs_cons (pg_name (i := 7) sc.nd rfl (Or.inl rfl)) (pgs_cons (pg_name (i := 8) sc.nd rfl (Or.inl rfl)) (pgs_cons (pg_name (i := 9) sc.nd rfl (Or.inl rfl)) (pgs_cons (pg_name (i := 10) sc.nd rfl (Or.inl rfl)) (pgs_cons (pg_name (i := 11) sc.nd rfl (Or.inl rfl)) pgs_nil)))))))))
  (pss_cons (ps_set (i := 3) sc.nd rfl (Or.inr rfl) (pe_call G__law_of (hr.mono (by decide)) rfl (T.gw "_law_of" (by decide +kernel)) k__law_of b__law_of .nil passL (pa_cons (pv 0) (pa_cons (pv 10) pa_nil))))
  (pss_cons (ps_if (pt_not (pt_val (pe_callG G__law_same hgd (hr.mono (by decide)) rfl (T.gw "_law_same" (by decide +kernel)) k__law_same b__law_same .nil passL (pa_cons (pe_call G__law_told (hr.mono (by decide)) rfl (T.gw "_law_told" (by decide +kernel)) k__law_told b__law_told .nil passL (pa_cons (pv 1) (pa_cons (pe_tup (pa_cons pe_str (pa_cons (pe_ix ix_tup (pv 3) pe_int (fun _ _ => rfl)) (pa_cons (pe_ix ix_tup (pv 3) pe_int (fun _ _ => rfl)) pa_nil)))) pa_nil))) (pa_cons (pe_tup (pa_cons pe_str (pa_cons pe_non pa_nil))) pa_nil)))))
  (pss_one (ps_ret pe_non))
  pss_nil)
  (pss_cons (ps_setLc (i := 4) (own := [("_law_its", 12)]) (g := gName 12) rfl sc.nd rfl rfl (by rfl) (pi_list (pv 10)) (blkOk_by (N := ["_law_box_here", "_law_roll", "_law_state", "_law_mark", "_law_rest", "_law_line", "_law_begin", "_law_needed", "_law_next_so", "_law_safe_so", "_law_marks", "_law_cut_so", "_law_its"]) (sc := defScope sLCut) (by decide +kernel)) (fun _ _ _ _ _ => pg_name (i := 12) sc.nd rfl (Or.inl rfl)) (fun _ _ _ _ _ => (pts_one (pt_cmpR op_ge (pe_ix (ix_tupC K (by rfl)) (pv 12) pe_int (fun _ _ => rfl)) (pe_ix (ix_tupC K (by rfl)) (pv 3) pe_int (fun _ _ => rfl)) (nomark _)))) (fun _ _ _ _ _ => (pv 12)))
  (pss_one (ps_ret (pe_lst (pa_cons (pe_slice sl_list (pv 5) (po_some (pe_op op_sub (pe_ix ix_tup (pv 3) pe_int (fun _ _ => rfl)) (pv 6))) po_none) (pa_cons (pe_ix ix_tup (pv 3) pe_int (fun _ _ => rfl)) (pa_cons (pe_ix ix_tup (pv 3) pe_int (fun _ _ => rfl)) (pa_cons (pv 8) (pa_cons (pv 9) (pa_cons (pv 4) (pa_cons (pv 3) pa_nil)))))))))))))), ?_⟩
    obtain ⟨ct, hs, hct⟩ := a.Z.hs
    obtain ⟨lv, hln, hlR⟩ := a.Z.hl
    obtain ⟨mv, hmk, hmR⟩ := a.Z.hm
    have hmks := a.W.mks
    have hmv := pr_len hmR
    refine ⟨_, rfl, s, _, rfl, SqL.of hs, rfl, _, _, rfl, _, _, rfl, _, _, rfl, _, _, rfl, _, _, rfl, _, _, rfl, _, _, rfl, rfl, ?_⟩
    refine st_eq (σ' := [some (.ref bx), some (.ref g), some (.ref s), none, none, some (.ref ln), some (.int st.beg), some (.int st.needed), some (.int st.next), some (.int st.safe), some (.ref mk), some (.ref ct), none]) rfl ?_
    have nmb : mk ≠ bx := fun z => a.nb (by simp [z])
    have hne : mv ≠ [] := fun z => by
      rw [z] at hmv
      have := a.W.good.cutm
      rw [List.length_eq_zero_iff.mp hmv.symm] at this
      cases this
    refine ⟨_, rfl, _, rfl, bx, mk, m, mv, rfl, a.B, hmk, nmb, hne, by have := a.W.t1; omega, by omega, fun H1 v hv hb1 k1 => ?_⟩
    have a1 := a.box k1 hb1
    obtain ⟨mm, hmm, tm, rfl, htm⟩ : ∃ mm, mm ∈ st.marks ∧ Mk3 H1 v mm := by
      obtain ⟨j, hj, ej⟩ := List.mem_iff_getElem.mp hv
      obtain ⟨y, ey, hy⟩ := pr_get hmR (show mv[j]? = some v by rw [List.getElem?_eq_getElem hj, ej])
      exact ⟨y, List.mem_of_getElem? ey, Rec.kp k1 hy⟩
    have M := a.W.good.marks mm hmm
    have g2 := a.W.good.b2
    have r1 := M.rlo
    have r2 := M.rhi
    have r3 := M.lo
    have r4 := M.hi
    obtain ⟨rv, hrv, hrR⟩ := a1.W.hr
    obtain ⟨lv1, hln1, hlR1⟩ := a1.Z.hl
    have e1 := pr_len hlR1
    have e2 := pr_len hrR
    have i0 : atI [V.int mm.1, .int mm.2.1, .int mm.2.2] 0 = some (.int mm.1) := atI_nat (j := 0) rfl
    have i1 : atI [V.int mm.1, .int mm.2.1, .int mm.2.2] 1 = some (.int mm.2.1) := atI_nat (j := 1) rfl
    refine ⟨_, rfl, _, rfl, _, _, _, _, rfl, rfl, SqT.of htm, i0, _, rfl, _, _, _, _, rfl, rfl, SqT.of htm, i1, (by show 3 ≤ sizeLine; decide), fun q1 hq1 => ?_⟩
    have s1 := sameNew (o := .tup [.str "cut", .int mm.1, .int mm.2.1]) hq1
    have a2 := a1.same s1
    unfold tNil
    refine told_cut (E := E0) (m := mm.2.1) a2.W.L (s1 _ _ hrv) upd_same (by omega) (by omega) (by omega) (by omega) fun H3 p l3 kp3 f3 h3l L3 hp hp3 => ?_
    refine ⟨(by show 2 ≤ sizeLine; decide), fun q2 hq2 => ?_⟩
    refine same_by (E := E0) (x := "told") (d := .none) (by simp) (at_new hq2 hp3) upd_same .non .non fi_non ?_
    refine ⟨_, rfl, iteF ?_⟩
    have s4 := sameNew (o := .tup [.str "told", .non]) hq2
    have L4 := L3.same s4
    have h4l := s4 _ _ h3l
    have f3' := s1.free f3
    have kp4 : Kp [g] H1 (upd H3 q2 (.tup [.str "told", .non])) := ((Kp.same s1).trans kp3).trans (Kp.same s4)
    generalize upd H3 q2 (.tup [.str "told", .non]) = H4 at L4 h4l kp4
    obtain ⟨_, gdx, hgg⟩ := a1.W.L
    obtain ⟨mv1, hmk1, hmR1⟩ := a1.Z.hm
    have hmk4 := kp4.keep _ _ hmk1 (by simpa using Ne.symm (ins_lst hgg hmk1))
    have hln4 := kp4.keep _ _ hln1 (by simpa using Ne.symm (ins_lst hgg hln1))
    have htm4 := kp4.tups _ _ htm
    have hmR4 := Mk3.kp kp4 hmR1
    have hmv1 := pr_len hmR1
    refine ⟨_, rfl, mk, rfl, ⟨_, SqL.of hmk4⟩, fun D0 hD0 => ?_⟩
    have n3 : D0 ≠ l3 := Ne.symm (ne_of_none h4l hD0)
    refine lc_list (K := K) (a := mk) (xs := mv1) (fun i H' => Same H4 H' ∧ ∃ fs, H' D0 = some (.lst fs) ∧ fs.length ≤ i ∧ Paired (Mk3 H4) fs ((st.marks.take i).filter fun x => decide (mm.1 ≤ x.1))) ⟨sameNew hD0, [], upd_same, Nat.le_refl _, .nil⟩ (fun i H' _ z => SqL.of (z.1 _ _ hmk4)) ?_ ?_
    · rintro i x H' hx ⟨s5, fs, h5, h6, h7⟩
      obtain ⟨m2, hm2, t2, rfl, ht2⟩ := pr_get hmR4 hx
      have hi : i < mv1.length := (List.getElem?_eq_some_iff.mp hx).1
      have etk : st.marks.take (i + 1) = st.marks.take i ++ [m2] := by rw [List.take_add_one, hm2]; rfl
      refine ⟨rfl, ?_⟩
      refine ⟨_, rfl, _, _, _, _, rfl, rfl, SqT.of (s5 _ _ ht2), atI_nat (j := 0) (v := .int m2.1) rfl, _, rfl, _, _, _, _, rfl, rfl, SqT.of (s5 _ _ htm4), i0, _, _, rfl, rfl, _, rfl, ?_⟩
      by_cases hle : mm.1 ≤ m2.1
      · refine ifT (decide_eq_true (by omega)) ⟨_, rfl, fs, h5, by rw [sizeLine_eq]; have := a.W.t1; omega, fun b o e => at_put (ne_of_none e hD0) (s5 _ _ e), fs ++ [.ref t2], upd_same, by rw [List.length_append, List.length_singleton]; omega, ?_⟩
        rw [etk, List.filter_append, List.filter_cons, if_pos (by simpa using hle)]
        exact pr_append h7 (pr_one ⟨t2, rfl, ht2⟩)
      · refine ifF (decide_eq_false (by omega)) ⟨s5, fs, h5, by omega, ?_⟩
        rw [etk, List.filter_append, List.filter_cons, if_neg (by simpa using hle)]
        simpa using h7
    · rintro H' ⟨s5, fs, h5, h6, h7⟩
      rw [hmv1, List.take_length] at h7
      have htm5 := s5 _ _ htm4
      refine ⟨_, rfl, _, rfl, _, _, _, _, rfl, rfl, SqT.of htm5, i1, _, rfl, _, _, rfl, rfl, _, rfl, ln, lv1, rfl, SqL.of (s5 _ _ hln4), fun l4 hl4 => ?_⟩
      have ecut : cutV lv1 (some ((mm.2.1 : Int) - (st.beg : Int))) none = lv1.drop (mm.2.1 - st.beg) := by rw [show (mm.2.1 : Int) - (st.beg : Int) = ((mm.2.1 - st.beg : Nat) : Int) by omega, cut_n _ _ (by omega)]
      rw [ecut]
      have s6 := sameNew (o := .lst (lv1.drop (mm.2.1 - st.beg))) hl4
      have htm6 := s6 _ _ htm5
      refine ⟨_, rfl, _, _, _, _, rfl, rfl, SqT.of htm6, i1, _, rfl, _, _, _, _, rfl, rfl, SqT.of htm6, i0, _, rfl, _, rfl, _, rfl, _, rfl, (by show 7 ≤ sizeLine; decide), fun s' hs' => ?_⟩
      have s46 := s5.trans s6
      have s7 := sameNew (o := .lst [.ref l4, .int mm.2.1, .int mm.1, .int st.next, .int st.safe, .ref D0, .ref tm]) hs'
      have s47 := s46.trans s7
      have hgfr : ∀ x, H4 x = none → H1 x = none := fun x hx => kp4.free hx (by
        obtain ⟨_, gx, hg4⟩ := L4
        have : x ≠ g := fun z => by rw [z, hg4] at hx; cases hx
        simpa using this)
      have h4s' : H4 s' = none := s46.free hs'
      have h4l4 : H4 l4 = none := s5.free hl4
      have kp47 := kp4.trans (Kp.same (fp := [g]) s47)
      exact q _ s' l4 D0 k sh lo l3 S _ (cut_fin (rv := rv) (lv := lv1) (fs := fs) (tm := tm) a1 hmm ht40 kp47 (L4.same s47) f3' (s47 _ _ h4l) hrR hlR1 (hgfr _ h4s') (hgfr _ h4l4) (hgfr _ hD0) (Ne.symm (ne_of_none h4l h4s')) (Ne.symm (ne_of_none h4l h4l4)) n3 upd_same (at_new hs' upd_same) (s7 _ _ (s6 _ _ h5)) (Mk3.kp (Kp.same (fp := []) s47) h7) ⟨tm, rfl, s7 _ _ htm6⟩)
end
end K51
end L2
set_option Elab.async false
set_option linter.all false
set_option maxRecDepth 100000
set_option maxHeartbeats 4000000
/-! KE8: _law_crashed. -/
namespace L2
open PySem PySem.Spec PyProof.Rows
namespace K51
theorem inV_nats (j : Nat) (ks : List Nat) : inV (.int j) (natsV ks) = decide (j ∈ ks) := by
  unfold inV natsV
  rw [Bool.eq_iff_iff, List.any_map, List.any_eq_true, decide_eq_true_iff]
  constructor
  · rintro ⟨x, hx, e⟩
    have : (x : Int) = (j : Int) := by simpa [eqV] using e
    have : x = j := by omega
    rw [← this]; exact hx
  · intro h
    exact ⟨j, h, by simp [eqV]⟩
theorem flat_nats (ks : List Nat) : (natsV ks).all flatV = true := by
  unfold natsV
  rw [List.all_map, List.all_eq_true]
  intro x _; rfl
theorem cr_put (c : Nat) (ps : List Pt) : ∀ (ks : List Nat) (S : Pl), cr S (lsOf c ps) ks = RM.put S c (ks.filterMap fun i => ps[i]?)
  | [], S => rfl
  | i :: ks, S => by
    show cr (crW (lsOf c ps) S i) (lsOf c ps) ks = _
    rw [cr_put c ps ks]
    unfold crW lsOf
    rw [List.getElem?_map, List.filterMap_cons]
    cases ps[i]? with
    | none => rfl
    | some p => rfl
theorem len_sum (gs : List (List (List V))) : (gs.map fun g => ((g.length : Nat) : Int)).sum = ((gs.flatten.length : Nat) : Int) := by
  induction gs with
  | nil => rfl
  | cons g gs ih =>
    rw [List.map_cons, List.sum_cons, ih, List.flatten_cons, List.length_append]
    omega
section
variable {P : Program} {w : World} {K : PySem.W.Frag} {mg : Str → Option Value} {base : Heap} {f : Addr} {fd : FuncData}
theorem told_stop {H : Hp} {g d q lr : Addr} {c n nx b : Nat} {e s : Nat} {k sh lo : Addr} {kept shown : Pl} {rv : List V} {rs : List (List V)} {Q : VK} {E : XK} {gs : List (List (List V))} (hgs' : gs = pk8 (rs.drop (s - b))) (h : FlW K H g d c n nx b lr e s k sh lo kept shown (.int gs.length) rv rs) (hq : H q = some (.tup [.str "flush"])) (hgs : gs ≠ []) (hf : nx + gs.length ≤ n + c)
    (kk : ∀ H', DkAt K H' d k sh lo kept (RM.put shown c (RM.parts nx e s gs)) (lsOf c (RM.parts nx e s gs)) (.int 0) → Kp [g, d, sh, lo] H H' → Q (.str "other") H') : spTold K [.ref g, .ref q] H Q E :=
  ⟨g, q, _, rfl, hq, ⟨_, _, _, _, _, _, _, h.L⟩, .inr (.inr (.inl ⟨rfl, fun Q2 E2 k1 k2 => ⟨g, d, c, n, nx, b, lr, e, s, _, sh, lo, kept, shown, _, rv, rs, gs, rfl, h, hgs', .inr (.inr (.inr ⟨hgs, hf, rfl, fun H' D' kp => k2 _ _ _ (.inr (.inr (.inr ⟨rfl, rfl, fun H'' s2 => kk H'' (D'.same s2) (kp.trans (Kp.same s2))⟩)))⟩))⟩⟩))⟩
abbrev sCrashed : Stmt := topS 35
/-- what a crash leaves: the disk, the law's state behind it -/
structure CrW (K : PySem.W.Frag) (H0 H : Hp) (bx s ln mk d k sh lo : Addr) (S : Pl) (c E m : Nat) (st : Ls) (gs : List (List (List V))) (ks : List Nat) (n : Nat) : Prop where
  B : Bx H bx m
  D : DkAt K H d k sh lo (RM.put S c (ks.filterMap fun i => (RM.parts st.next E st.safe gs)[i]?)) (RM.put S c (ks.filterMap fun i => (RM.parts st.next E st.safe gs)[i]?)) [] .non
  W : RM.Waits st gs
  fit : st.next + gs.length ≤ st.needed + c
  gok : ∀ g ∈ gs, (∀ r ∈ g, RecA r) ∧ g.length ≤ 100
  hks : ∀ i ∈ ks, i < gs.length
  hn : n ≤ gs.length
  hin : ∀ i, i < n → i ∈ ks
  hout : n = gs.length ∨ n ∉ ks
  hs : ∃ ct, H s = some (.lst [.ref ln, .int st.beg, .int st.needed, .int ((st.next + n : Nat) : Int), .int ((st.safe + (gs.take n).flatten.length : Nat) : Int), .ref mk, .ref ct]) ∧ H mk = some (.lst [.ref ct]) ∧ Mk3 H (.ref ct) st.cut
  hl : ∃ lv, H ln = some (.lst lv) ∧ Recs H lv (st.line.take (st.safe + (gs.take n).flatten.length - st.beg))
  apt : ∀ x ∈ [s, ln, mk, bx], x ∉ [k, sh, lo]
  nb : bx ∉ [s, ln, mk]
  nsl : s ≠ ln
  nsm : s ≠ mk
  fr : Frm H0 H bx [d, k, sh, lo, s]
def spCrashed (K : PySem.W.Frag) : Sp := fun vs H Q _ => ∃ (H0 : Hp) (bx s ln mk g d k sh lo lr : Addr) (S : Pl) (c E t m : Nat) (st : Ls), vs = [.ref bx, .ref d, .ref g, .ref s, .int c] ∧ All K H0 H bx s ln mk g d k sh lo lr S c E st t m ∧ t < 40 ∧ m ≤ 800000 ∧
  ∀ H' s' ln' mk' k' sh' lo' gs ks n, CrW K H0 H' bx s' ln' mk' d k' sh' lo' S c E (m + 101) st gs ks n → Q (.ref s') H'
theorem scCrashed : FnScope ["_law_box_here", "_law_plate", "_law_roll", "_law_state", "_law_ring", "_law_groups", "_law_ends", "_law_line", "_law_begin", "_law_needed", "_law_next_so", "_law_safe_so", "_law_marks", "_law_cut_so", "_law_some_here", "_law_stays", "_law_group"] ["_law_box_here", "_law_plate", "_law_roll", "_law_state", "_law_ring"] (defScope sCrashed) := ⟨rfl, rfl, rfl, by decide +kernel, rfl, by decide +kernel, by decide +kernel⟩
theorem ok_crashed (T : Tx K mg) (kP : Kn P w K mg base (L2.CX P w) 1 (He.ga K "_law_packed") ["_law_own"] (spLPacked K)) (kD : Kn P w K mg base (L2.CX P w) 7 (He.ga K "_law_told") ["_law_roll", "_law_deed"] (spTold K)) (kF : Kn P w K mg base (L2.CX P w) 1 (mD K "fail_after") ["self", "many"] (spFail K)) (kL : Kn P w K mg base (L2.CX P w) 1 (mD K "loose") ["self"] (spLoose K)) (kC : Kn P w K mg base (L2.CX P w) 1 (mD K "crash") ["self", "kept"] (spCrash K))
    (kS : Kn P w K mg base (L2.CX P w) 2 (He.ga K "_law_some") ["_law_box_here", "_law_most"] spSome) (F : FnP K "_law_crashed" "_law_crashed" sCrashed f fd) : FnOk P w K mg base (L2.CX P w) 8 f fd ["_law_box_here", "_law_plate", "_law_roll", "_law_state", "_law_ring"] (spCrashed K) := by
  have sc := scCrashed
  obtain ⟨_, G__law_packed, b__law_packed, k__law_packed⟩ := kP
  obtain ⟨_, G__law_told, b__law_told, k__law_told⟩ := kD
  obtain ⟨_, G__law_some, b__law_some, k__law_some⟩ := kS
  obtain ⟨_, G_D_fail_after, b_D_fail_after, _⟩ := kF
  obtain ⟨_, G_D_loose, b_D_loose, _⟩ := kL
  obtain ⟨_, G_D_crash, b_D_crash, _⟩ := kC
  refine F.ok sc (fun vs H Q E h => ?_) (fun cdv A outer ss H vs Q E hr h => ?_)
  · obtain ⟨_, _, _, _, _, _, _, _, _, _, _, _, _, _, _, _, _, rfl, _⟩ := h
    rfl
  · obtain ⟨H0, bx, s, ln, mk, g, d, k, sh, lo, lr, S, c, E', t, m, st, rfl, a, ht40, hm, q⟩ := h
    obtain ⟨ct, hs, hct⟩ := a.Z.hs
    obtain ⟨lv, hln, hlR⟩ := a.Z.hl
    obtain ⟨rv, hrv, hrR⟩ := a.W.hr
    have e1 := pr_len hlR
    have hb1 := a.W.b1
    have g1 := a.W.good.b1
    have g2 := a.W.good.b2
    have g3 := a.W.good.n1
    have g4 := a.W.good.n2
    have c1 := a.W.c1
    have c2 := a.W.c2
    have hu : (A.deeper (envOfC "_law_crashed" (defScope sCrashed) ss.heap.objs.size f cdv)).units + 64 < cLine := by have := hr.un; omega
    -- behind the flush
    obtain ⟨t2, ht2, hr2⟩ : ∃ t2 : TS, PSs (cxOf (L2.CX P w) P w K mg base ["_law_box_here", "_law_plate", "_law_roll", "_law_state", "_law_ring", "_law_groups", "_law_ends", "_law_line", "_law_begin", "_law_needed", "_law_next_so", "_law_safe_so", "_law_marks", "_law_cut_so", "_law_some_here", "_law_stays", "_law_group"] "_law_crashed" (defScope sCrashed) f cdv A outer ss H E).nox ((defBody sCrashed).drop 5) t2 ∧
        (∀ (H3 : Hp) (pg : Addr) (gv : List V) (gs : List (List (List V))) (l3 : V), Kp [g, d, sh, lo] H H3 → H3 pg = some (.lst gv) → Grps H3 gv gs → H pg = none → (∀ x ∈ gv, ∃ b, x = .ref b ∧ H b = none) → RM.Waits st gs → st.next + gs.length ≤ st.needed + c → (∀ g ∈ gs, (∀ r ∈ g, RecA r) ∧ g.length ≤ 100) →
          DkAt K H3 d k sh lo S (RM.put S c (RM.parts st.next E' st.safe gs)) (lsOf c (RM.parts st.next E' st.safe gs)) l3 → t2 { nx := fun _ H' => Q .non H', rt := Q } [some (.ref bx), some (.ref d), some (.ref g), some (.ref s), some (.int c), some (.ref pg), none, some (.ref ln), some (.int st.beg), some (.int st.needed), some (.int st.next), some (.int st.safe), some (.ref mk), some (.ref ct), none, none, none] H3) := by
      refine ⟨_, (pss_cons (ps_par (i := 14) (j := 15) (by rfl) sc.nd rfl rfl (by decide) rfl rfl (pa_cons (pe_call G__law_some (hr.mono (by decide)) rfl (T.gw "_law_some" (by decide +kernel)) k__law_some b__law_some .nil passL (pa_cons (pv 0) (pa_cons (pe_callB call_len (by rfl) (T.fr "len" (by decide +kernel)) (by decide +kernel) (pa_cons (pe_meth0 (pv 1) T.clD (T.meD "loose" (by decide +kernel)) G_D_loose (hr.mono (by decide)) b_D_loose .nil passL) pa_nil)) pa_nil))) (pa_cons pe_int pa_nil)) (by rfl))
  (pss_cons (ps_expr (pe_meth (pv 1) T.clD (T.meD "crash" (by decide +kernel)) G_D_crash (hr.mono (by decide)) b_D_crash .nil passL (pa_cons (pv 14) pa_nil)))
  (pss_cons (ps_while PassesOwn.never (pt_cmpR op_in_seq (pv 15) (pv 14) rfl)
  (pss_one (ps_set (i := 15) sc.nd rfl (Or.inl rfl) (pe_op op_add (pv 15) pe_int))))
  (pss_cons (ps_set (i := 6) sc.nd rfl (Or.inl rfl) (pe_op op_add (pv 11) (pe_callB (cr_sum rfl) (by rfl) (T.fr "sum" (by decide +kernel)) (by decide +kernel) (pa_cons (pe_lc (own := [("_law_group", 16)]) (g := gName 16) (tt := tYes) rfl sc.nd (pi_list (pe_slice sl_list (pv 5) po_none (po_some (pv 15)))) (blkOk_by (N := ["_law_box_here", "_law_plate", "_law_roll", "_law_state", "_law_ring", "_law_groups", "_law_ends", "_law_line", "_law_begin", "_law_needed", "_law_next_so", "_law_safe_so", "_law_marks", "_law_cut_so", "_law_some_here", "_law_stays", "_law_group"]) (sc := defScope sCrashed) (by decide +kernel)) (fun _ _ _ _ _ => pg_name (i := 16) sc.nd rfl (Or.inl rfl)) (fun _ _ _ _ _ => pts_nil) (fun _ _ _ _ _ => (pe_callB (call_lenC K (by rfl)) (by rfl) (T.fr "len" (by decide +kernel)) (by decide +kernel) (pa_cons (pv 16) pa_nil)))) pa_nil))))
  (pss_one (ps_ret (pe_lst (pa_cons (pe_slice sl_list (pv 7) po_none (po_some (pe_op op_sub (pv 6) (pv 8)))) (pa_cons (pv 8) (pa_cons (pv 9) (pa_cons (pe_op op_add (pv 10) (pv 15)) (pa_cons (pv 6) (pa_cons (pe_lst (pa_cons (pv 13) pa_nil)) (pa_cons (pv 13) pa_nil)))))))))))))), ?_⟩
      intro H3 pg gv gs l3 kp3 hpg hG hpg0 hfr hW hfit hgk D3
      have hap := a.apt
      have hgl := pr_len hG
      obtain ⟨_, gx0, hg0⟩ := a.W.L
      obtain ⟨dx0, wr0, hd0⟩ := a.W.D.ins
      obtain ⟨_, hk0, _⟩ := a.W.D.hk
      obtain ⟨_, hs0, _⟩ := a.W.D.hs
      obtain ⟨_, hl0, _⟩ := a.W.D.hl
      obtain ⟨xb, yb, zb, hbx, hb0, hbm⟩ := a.B
      have nfp : ∀ x ∈ [s, ln, mk, bx], ∀ xs, H x = some (.lst xs) → x ∉ [g, d, sh, lo] ∧ x ≠ k := fun x hx xs hxx => by
        have h1 := hap x hx
        have h2 := Ne.symm (ins_lst hg0 hxx)
        have h3 := Ne.symm (ins_lst hd0 hxx)
        simp only [List.mem_cons, List.not_mem_nil, or_false, not_or] at h1 ⊢
        exact ⟨⟨h2, h3, h1.2.1, h1.2.2.1⟩, h1.1⟩
      have nnew : ∀ x, H x = none → x ∉ [g, d, sh, lo, bx, k] := fun x hx => by
        simp only [List.mem_cons, List.not_mem_nil, or_false, not_or]
        exact ⟨fun z => (by rw [z, hg0] at hx; cases hx), fun z => (by rw [z, hd0] at hx; cases hx), fun z => (by rw [z, hs0] at hx; cases hx), fun z => (by rw [z, hl0] at hx; cases hx), fun z => (by rw [z, hbx] at hx; cases hx), fun z => (by rw [z, hk0] at hx; cases hx)⟩
      have hbn := a.bx_ne
      have hB3 : Bx H3 bx m := a.B.kp kp3 (nfp bx (by simp) _ hbx).1
      have hls : (lsOf c (RM.parts st.next E' st.safe gs)).length = gs.length := by unfold lsOf; rw [List.length_map, RM.parts_length]
      have hgc : gs.length ≤ 6 := by omega
      obtain ⟨dx3, wr3, hd3⟩ := D3.ins
      refine ⟨_, rfl, _, rfl, d, dx3, _, rfl, hd3, dk_meth _ (by decide +kernel), ?_⟩
      refine ⟨d, k, sh, lo, S, _, _, l3, rfl, D3, fun H4 p4 lv4 hp4 hp4' hlv4 s4 => ?_⟩
      rw [hls] at hlv4
      refine ⟨_, _, rfl, .inl ⟨_, SqL.of hp4', rfl⟩, bx, m, lv4.length, rfl, hB3.kp (Kp.same (fp := []) s4) (by simp), by omega, by omega, fun H5 p5 ks hp5 hp5' hks hb5 k5 => ?_⟩
      refine ⟨_, _, rfl, ?_⟩
      rw [hlv4] at hks
      have D5 := (D3.same s4).kp k5 (hbn d (by simp)) (hbn k (by simp)) (hbn sh (by simp)) (hbn lo (by simp))
      obtain ⟨dx5, wr5, hd5⟩ := D5.ins
      obtain ⟨_, hk5, _⟩ := D5.hk
      obtain ⟨_, hk4, _⟩ := (D3.same s4).hk
      have npk : p5 ≠ k := fun z => by rw [z, hk4] at hp5; cases hp5
      refine ⟨_, rfl, d, dx5, _, rfl, hd5, dk_meth _ (by decide +kernel), _, rfl, ?_⟩
      refine ⟨d, k, sh, lo, p5, S, _, _, l3, ks, rfl, D5, hp5', npk, by rw [hls]; exact hks, fun e he => ?_, fun H6 sh6 lo6 f1 f2 D6 k6 => ?_⟩
      · unfold lsOf at he
        obtain ⟨pt, _, rfl⟩ := List.mem_map.mp he
        have := Nat.mod_lt pt.num (show 0 < c by omega)
        show 2 + pt.num % c < S.length
        rw [a.W.good.len]; omega
      rw [cr_put] at D6
      have kA : Kp [g, d, sh, lo, bx, k] H3 H6 := ((Kp.same s4).trans (k5.mono (by simp))).trans (k6.mono (by simp))
      have kB : Kp [g, d, sh, lo, bx, k] H H6 := (kp3.mono (by simp)).trans kA
      have npd5 : p5 ≠ d := Ne.symm (ins_lst hd5 hp5')
      have hp6 := k6.keep _ _ hp5' (by simp [npd5, npk])
      have hpg6 := kA.keep _ _ hpg (nnew _ hpg0)
      have hG6 : Grps H6 gv gs := pr_mem hG fun x hx y z => z.kp kA fun b eb => by
        obtain ⟨b', eb', hb'⟩ := hfr x hx
        have : b = b' := V.ref.inj (eb.symm.trans eb')
        subst this
        exact nnew b hb'
      have nln : ln ∉ [g, d, sh, lo, bx, k] := by
        have h1 := nfp ln (by simp) _ hln
        have h2 := a.nb
        simp only [List.mem_cons, List.not_mem_nil, or_false, not_or] at h1 h2 ⊢
        exact ⟨h1.1.1, h1.1.2.1, h1.1.2.2.1, h1.1.2.2.2, Ne.symm h2.2.1, h1.2⟩
      have hln6 := kB.keep _ _ hln nln
      have hct6 := Rec.kp kB hct
      obtain ⟨xb5, yb5, zb5, hbx5, hb50, hb5m⟩ := hb5
      have hbx6 := k6.keep _ _ hbx5 (by
        have h1 := nfp bx (by simp) _ hbx
        simp only [List.mem_cons, List.not_mem_nil, or_false, not_or] at h1 ⊢
        exact ⟨h1.1.2.1, h1.2⟩)
      have nb6 : bx ≠ sh6 ∧ bx ≠ lo6 := ⟨fun z => (by rw [← z, hbx5] at f1; cases f1), fun z => (by rw [← z, hbx5] at f2; cases f2)⟩
      have hfpB : ∀ x ∈ [g, d, sh, lo, bx, k], x = bx ∨ H0 x = none := fun x hx => by
        simp only [List.mem_cons, List.not_mem_nil, or_false] at hx
        rcases hx with rfl | rfl | rfl | rfl | rfl | rfl
        · exact .inr (a.fr.new _ (by simp))
        · exact .inr (a.fr.new _ (by simp))
        · exact .inr (a.fr.new _ (by simp))
        · exact .inr (a.fr.new _ (by simp))
        · exact .inl rfl
        · exact .inr (a.fr.new _ (by simp))
      have fr5 : Frm H0 H5 bx [] := a.fr.kp (((kp3.mono (fp' := [g, d, sh, lo, bx, k]) (by simp)).trans (Kp.same s4)).trans (k5.mono (by simp))) hfpB (by simp)
      have n6s := fr5.fresh hbx5 f1
      have n6l := fr5.fresh hbx5 f2
      clear k5 k6 D5 D3
      -- how many stay
      refine ⟨fun mm σ H' => ∃ j : Nat, mm = gs.length - j ∧ j ≤ gs.length ∧ (∀ i, i < j → i ∈ ks) ∧ σ = [some (.ref bx), some (.ref d), some (.ref g), some (.ref s), some (.int c), some (.ref pg), none, some (.ref ln), some (.int st.beg), some (.int st.needed), some (.int st.next), some (.int st.safe), some (.ref mk), some (.ref ct), some (.ref p5), some (.int j), none] ∧ H' = H6, ⟨gs.length, 0, rfl, Nat.zero_le _, fun i hi => absurd hi (Nat.not_lt_zero _), rfl, rfl⟩, ?_⟩
      rintro mm σ H' ⟨j, rfl, hj, hin, rfl, rfl⟩
      refine ⟨_, rfl, _, rfl, p5, natsV ks, rfl, .inl (SqL.of hp6), rfl, flat_nats ks, _, rfl, ?_⟩
      by_cases hjk : j ∈ ks
      · refine ifT (by show inV (.int j) (natsV ks) = true; rw [inV_nats]; exact decide_eq_true hjk) ?_
        have hjl := hks j hjk
        refine ⟨fun σ2 H2 => σ2 = [some (.ref bx), some (.ref d), some (.ref g), some (.ref s), some (.int c), some (.ref pg), none, some (.ref ln), some (.int st.beg), some (.int st.needed), some (.int st.next), some (.int st.safe), some (.ref mk), some (.ref ct), some (.ref p5), some (.int ((j + 1 : Nat) : Int)), none] ∧ H2 = H', ?_, ?_⟩
        · rintro σ2 H2 ⟨rfl, rfl⟩
          exact ⟨_, by omega, j + 1, rfl, hjl, fun i hi => by
            by_cases h : i = j
            · rw [h]; exact hjk
            · exact hin i (by omega), rfl, rfl⟩
        · exact ⟨_, rfl, _, _, rfl, rfl, rfl, rfl⟩
      · refine ifF (by show inV (.int j) (natsV ks) = false; rw [inV_nats]; exact decide_eq_false hjk) ?_
        refine ⟨_, rfl, _, rfl, _, rfl, _, rfl, pg, gv, rfl, SqL.of hpg6, fun p7 hp7 => ?_⟩
        have etk : cutV gv none (some (j : Int)) = gv.take j := cut_t _ _ (by omega)
        rw [etk]
        have s7 := sameNew (o := .lst (gv.take j)) hp7
        refine ⟨p7, rfl, ⟨_, SqL.of upd_same⟩, fun D0 hD0 => ?_⟩
        have hG7 := pr_take j (hG6.same s7)
        refine lc_list (K := K) (a := p7) (xs := gv.take j) (fun i H2 => Same (upd H' p7 (.lst (gv.take j))) H2 ∧ H2 D0 = some (.lst ((((gs.take j).take i).map fun g => ((g.length : Nat) : Int)).map V.int))) ⟨sameNew hD0, by rw [upd_same]; rfl⟩ (fun i H2 _ z => SqL.of (z.1 _ _ upd_same)) ?_ ?_
        · rintro i x H2 hx ⟨s8, h8⟩
          obtain ⟨g2, hg2, b, vs, rfl, hb, hRb⟩ := pr_get hG7 hx
          have hvl := pr_len hRb
          refine ⟨rfl, ?_⟩
          refine ⟨_, rfl, _, _, rfl, .inl ⟨_, SqL.of (s8 _ _ hb), rfl⟩, _, h8, ?_, fun b2 o e => at_put (ne_of_none e hD0) (s8 _ _ e), ?_⟩
          · rw [List.length_map, List.length_map, List.length_take, List.length_take, sizeLine_eq]; omega
          · rw [upd_same, List.take_add_one, hg2, List.map_append, List.map_append, hvl]
            rfl
        · rintro H2 ⟨s8, h8⟩
          have e8 : (gv.take j).length = (gs.take j).length := pr_len hG7
          rw [e8, List.take_length] at h8
          refine ⟨D0, _, rfl, SqL.of h8, _, _, rfl, rfl, ?_⟩
          have s78 := s7.trans s8
          have hln8 := s78 _ _ hln6
          rw [len_sum]
          have hflat : st.safe + (gs.take j).flatten.length - st.beg ≤ lv.length := by
            have h1 : (gs.take j).flatten.length ≤ gs.flatten.length := by
              have e : gs.flatten = (gs.take j).flatten ++ (gs.drop j).flatten := by rw [← List.flatten_append, List.take_append_drop]
              rw [e, List.length_append]; omega
            rcases hW with rfl | h
            · simp; omega
            · rw [h, List.length_drop] at h1; omega
          refine ⟨_, rfl, _, rfl, _, rfl, _, _, rfl, rfl, _, rfl, ln, lv, rfl, SqL.of hln8, fun l9 hl9 => ?_⟩
          have ecut2 : cutV lv none (some ((st.safe : Int) + (((gs.take j).flatten.length : Nat) : Int) - (st.beg : Int))) = lv.take (st.safe + (gs.take j).flatten.length - st.beg) := by
            rw [show (st.safe : Int) + (((gs.take j).flatten.length : Nat) : Int) - (st.beg : Int) = ((st.safe + (gs.take j).flatten.length - st.beg : Nat) : Int) by omega, cut_t _ _ hflat]
          rw [ecut2]
          have s9 := sameNew (o := .lst (lv.take (st.safe + (gs.take j).flatten.length - st.beg))) hl9
          refine ⟨_, rfl, _, rfl, _, rfl, _, rfl, _, _, rfl, rfl, _, rfl, _, rfl, (by show 1 ≤ sizeLine; decide), fun l10 hl10 => ⟨_, rfl, (by show 7 ≤ sizeLine; decide), fun s' hs' => ?_⟩⟩
          have s10 := sameNew (o := .lst [.ref ct]) hl10
          have s11 := sameNew (o := .lst [.ref l9, .int st.beg, .int st.needed, .int ((st.next : Int) + (j : Int)), .int ((st.safe : Int) + (((gs.take j).flatten.length : Nat) : Int)), .ref l10, .ref ct]) hs'
          have sAll := ((s78.trans s9).trans s10).trans s11
          obtain ⟨_, hk6, _⟩ := D6.hk
          obtain ⟨_, hs6, _⟩ := D6.hs
          obtain ⟨_, hl6, _⟩ := D6.hl
          have napt : ∀ x, H' x = none → x ∉ [k, sh6, lo6] ∧ x ≠ bx := fun x hx => by
            simp only [List.mem_cons, List.not_mem_nil, or_false, not_or]
            exact ⟨⟨fun z => (by rw [z, hk6] at hx; cases hx), fun z => (by rw [z, hs6] at hx; cases hx), fun z => (by rw [z, hl6] at hx; cases hx)⟩, fun z => (by rw [z, hbx6] at hx; cases hx)⟩
          have fs' := ((s78.trans s9).trans s10).free hs'
          have fl10 := (s78.trans s9).free hl10
          have fl9 := s78.free hl9
          refine q _ s' l9 l10 k sh6 lo6 gs ks j ⟨⟨xb5, yb5, zb5, sAll _ _ hbx6, hb50, hb5m⟩, D6.same sAll, hW, hfit, hgk, hks, hj, hin, .inr hjk, ⟨ct, ?_, at_new hs' upd_same, Rec.kp (Kp.same (fp := []) sAll) hct6⟩, ⟨_, at_new hs' (at_new hl10 upd_same), pr_take _ (hlR.kp (kB.trans (Kp.same sAll)))⟩, ?_, ?_, ?_, ?_, a.fr.kp (kB.trans (Kp.same sAll)) hfpB ?_⟩
          · rw [upd_same]; rfl
          · intro x hx
            simp only [List.mem_cons, List.not_mem_nil, or_false] at hx
            rcases hx with rfl | rfl | rfl | rfl
            · exact (napt _ fs').1
            · exact (napt _ fl9).1
            · exact (napt _ fl10).1
            · have h1 := nfp x (by simp) _ hbx
              simp only [List.mem_cons, List.not_mem_nil, or_false, not_or] at h1 ⊢
              exact ⟨h1.2, nb6.1, nb6.2⟩
          · simp only [List.mem_cons, List.not_mem_nil, or_false, not_or]
            exact ⟨Ne.symm (napt _ fs').2, Ne.symm (napt _ fl9).2, Ne.symm (napt _ fl10).2⟩
          · exact Ne.symm (ne_of_none (at_new hl10 upd_same) hs')
          · exact Ne.symm (ne_of_none upd_same hs')
          · intro x hx
            simp only [List.mem_cons, List.not_mem_nil, or_false] at hx
            rcases hx with rfl | rfl | rfl | rfl | rfl
            · exact a.fr.new _ (by simp)
            · exact a.fr.new _ (by simp)
            · exact n6s
            · exact n6l
            · exact (a.fr.kp (fp' := []) kB hfpB (by simp)).fresh hbx6 fs'
    obtain ⟨t1, ht1, hr1⟩ : ∃ t1 : TS, PSs (cxOf (L2.CX P w) P w K mg base ["_law_box_here", "_law_plate", "_law_roll", "_law_state", "_law_ring", "_law_groups", "_law_ends", "_law_line", "_law_begin", "_law_needed", "_law_next_so", "_law_safe_so", "_law_marks", "_law_cut_so", "_law_some_here", "_law_stays", "_law_group"] "_law_crashed" (defScope sCrashed) f cdv A outer ss H E).nox ((defBody sCrashed).drop 3) t1 ∧
        (∀ (H1 : Hp) (pg : Addr) (gv : List V) (gs : List (List (List V))), Same H H1 → H1 pg = some (.lst gv) → Grps H1 gv gs → H pg = none → (∀ x ∈ gv, ∃ b, x = .ref b ∧ H b = none) → (gs = [] ∨ gs = pk8 (st.line.drop (st.safe - st.beg))) → st.next + gs.length ≤ st.needed + c →
          t1 { nx := fun _ H' => Q .non H', rt := Q } [some (.ref bx), some (.ref d), some (.ref g), some (.ref s), some (.int c), some (.ref pg), none, some (.ref ln), some (.int st.beg), some (.int st.needed), some (.int st.next), some (.int st.safe), some (.ref mk), some (.ref ct), none, none, none] H1) := by
      refine ⟨_, (pss_cons (ps_expr (pe_meth (pv 1) T.clD (T.meD "fail_after" (by decide +kernel)) G_D_fail_after (hr.mono (by decide)) b_D_fail_after .nil passL (pa_cons (pe_callB call_len (by rfl) (T.fr "len" (by decide +kernel)) (by decide +kernel) (pa_cons (pv 5) pa_nil)) pa_nil)))
  (pss_cons (ps_if (PW.pt (pw_and (pt_cmpR (op_neD hu) (pv 5) (pe_lst pa_nil) (nomark _)) (pw_and1 (pt_cmpR op_ne (pe_call G__law_told (hr.mono (by decide)) rfl (T.gw "_law_told" (by decide +kernel)) k__law_told b__law_told .nil passL (pa_cons (pv 2) (pa_cons (pe_tup (pa_cons pe_str pa_nil)) pa_nil))) pe_str (nomark _)))))
  (pss_one (ps_ret pe_non))
  pss_nil) ht2)), ?_⟩
      intro H1 pg gv gs s1 hpg hG hpg0 hfr hgs hfit
      have a1 := a.same s1
      have hgl := pr_len hG
      have hA := fun r (h2 : r ∈ st.line.drop (st.safe - st.beg)) => a.W.recs r (List.drop_subset _ _ h2)
      have hdl : (st.line.drop (st.safe - st.beg)).length ≤ 100 := by rw [List.length_drop]; have := a.W.t1; omega
      obtain ⟨hgk, hgle, hgf⟩ := groups_ok hA hdl
      have hgk' : ∀ g ∈ gs, (∀ r ∈ g, RecA r) ∧ g.length ≤ 100 := by
        rcases hgs with rfl | rfl
        · intro g hg; cases hg
        · exact hgk
      have hW : RM.Waits st gs := by
        rcases hgs with rfl | rfl
        · exact .inl rfl
        · exact .inr hgf
      obtain ⟨ddx, wr, hd⟩ := a1.W.D.ins
      have npd : pg ≠ d := fun z => by
        obtain ⟨dx2, wr2, hd2⟩ := a.W.D.ins
        rw [z, hd2] at hpg0; cases hpg0
      refine ⟨_, rfl, d, ddx, _, rfl, hd, dk_meth _ (by decide +kernel), _, rfl, _, _, rfl, .inl ⟨_, SqL.of hpg, rfl⟩, ?_⟩
      refine ⟨d, k, sh, lo, S, S, [], _, gv.length, rfl, a1.W.D, fun H2 D2 k2 => ?_⟩
      have hfrd : ∀ x ∈ gv, ∀ b, x = .ref b → b ∉ [d] := fun x hx b eb => by
        obtain ⟨b', eb', hb'⟩ := hfr x hx
        have : b = b' := V.ref.inj (eb.symm.trans eb')
        subst this
        obtain ⟨dx2, wr2, hd2⟩ := a.W.D.ins
        have : b ≠ d := fun z => by rw [z, hd2] at hb'; cases hb'
        simpa using this
      have hpg2 := k2.keep _ _ hpg (by simpa using npd)
      have hG2 : Grps H2 gv gs := pr_mem hG fun x hx y z => z.kp k2 (hfrd x hx)
      have fw := a1.flw (s1 _ _ hrv) (hrR.kp (Kp.same (fp := []) s1)) _ H2 k2 D2
      refine ⟨_, rfl, Nat.zero_le _, fun z0 hz0 => ?_⟩
      have s2 := sameNew (o := .lst []) hz0
      refine ⟨.list (gs.map datL), .list [], .lst (SqL.of (s2 _ _ hpg2)) (dp_groups (hG2.same s2) fun g hg => (hgk' g hg).1), .lst (SqL.of upd_same) .nil, (fi_groups hgk').shaped (by decide), by decide +kernel, _, rfl, ?_⟩
      have kp2 : Kp [g, d, sh, lo] H (upd H2 z0 (.lst [])) := ((Kp.same (fp := [g, d, sh, lo]) s1).trans (k2.mono (by simp))).trans (Kp.same s2)
      by_cases hne : gs = []
      · refine ifF (by rw [hne]; rfl) ?_
        refine hr2 _ pg gv gs (.int gv.length) kp2 (s2 _ _ hpg2) (hG2.same s2) hpg0 hfr hW hfit hgk' ?_
        rw [hne]
        exact D2.same s2
      · refine ifT (by
          cases hh : gs with
          | nil => exact absurd hh hne
          | cons _ _ => rfl) ?_
        have hgs' : gs = pk8 (st.line.drop (st.safe - st.beg)) := by
          rcases hgs with h | h
          · exact absurd h hne
          · exact h
        refine ⟨_, rfl, (by show 1 ≤ sizeLine; decide), fun q1 hq1 => ?_⟩
        have s3 := s2.trans (sameNew (o := .tup [.str "flush"]) hq1)
        obtain ⟨L2', D2', f3, f4, f5, f6, f7, f8, f9, f10, f11, f12, f13⟩ := fw
        unfold tNil
        refine told_stop (E := E0) (gs := gs) hgs' (lo := lo) (sh := sh) (k := k) (kept := S) (shown := S) (rv := rv) (rs := st.line) (b := st.beg) (s := st.safe) (lr := lr) (d := d) ⟨L2'.same s3, by have := D2'.same s3; rwa [hgl] at this, f3, s3 _ _ f4, f5.kp (Kp.same (fp := []) s3), f6, f7, f8, f9, f10, f11, f12, f13⟩ upd_same hne hfit fun H5 D5 k5 => ?_
        refine ⟨rfl, _, rfl, iteF ?_⟩
        have npx : ∀ x, H x = none → x ∉ [g, d, sh, lo] := fun x hx => by
          obtain ⟨_, gx, hg0⟩ := a.W.L
          obtain ⟨dx2, wr2, hd2⟩ := a.W.D.ins
          obtain ⟨_, hs0, _⟩ := a.W.D.hs
          obtain ⟨_, hl0, _⟩ := a.W.D.hl
          simp only [List.mem_cons, List.not_mem_nil, or_false, not_or]
          exact ⟨fun z => (by rw [z, hg0] at hx; cases hx), fun z => (by rw [z, hd2] at hx; cases hx), fun z => (by rw [z, hs0] at hx; cases hx), fun z => (by rw [z, hl0] at hx; cases hx)⟩
        have kp5 : Kp [g, d, sh, lo] H2 H5 := (Kp.same (fp := [g, d, sh, lo]) s3).trans k5
        refine hr2 H5 pg gv gs (.int 0) (((Kp.same (fp := [g, d, sh, lo]) s1).trans (k2.mono (by simp))).trans kp5) (kp5.keep _ _ hpg2 (npx _ hpg0)) (pr_mem hG2 fun x hx y z => z.kp kp5 fun b eb => ?_) hpg0 hfr hW hfit hgk' D5
        obtain ⟨b', eb', hb'⟩ := hfr x hx
        have : b = b' := V.ref.inj (eb.symm.trans eb')
        subst this
        exact npx b hb'
    refine ⟨_, PSs.nox (pss_cons (ps_asg (pv 3) (pg_lst (n := 7) rfl (pgs_cons (pg_name (i := 7) sc.nd rfl (Or.inl rfl)) (pgs_cons (pg_name (i := 8) sc.nd rfl (Or.inl rfl)) (pgs_cons (pg_name (i := 9) sc.nd rfl (Or.inl rfl)) (pgs_cons (pg_name (i := 10) sc.nd rfl (Or.inl rfl)) (pgs_cons (pg_name (i := 11) sc.nd rfl (Or.inl rfl)) (pgs_cons (pg_name (i := 12) sc.nd rfl (Or.inl rfl)) (pgs_cons (pg_name (i := 13) sc.nd rfl (Or.inl rfl)) pgs_nil)))))))))
  (pss_cons (ps_set (i := 5) sc.nd rfl (Or.inl rfl) (pe_call G__law_packed (hr.mono (by decide)) rfl (T.gw "_law_packed" (by decide +kernel)) k__law_packed b__law_packed .nil passL (pa_cons (pe_slice sl_list (pv 7) (po_some (pe_op op_sub (pv 11) (pv 8))) po_none) pa_nil)))
  (pss_cons (ps_if (pt_cmpR op_gt (pe_op op_sub (pe_op op_add (pv 10) (pe_callB call_len (by rfl) (T.fr "len" (by decide +kernel)) (by decide +kernel) (pa_cons (pv 5) pa_nil))) (pv 9)) (pv 4) (nomark _))
  (pss_one (ps_set (i := 5) sc.nd rfl (Or.inl rfl) (pe_lst pa_nil)))
  pss_nil) ht1))), ?_⟩
    refine ⟨_, rfl, s, _, rfl, SqL.of hs, rfl, _, _, rfl, _, _, rfl, _, _, rfl, _, _, rfl, _, _, rfl, _, _, rfl, _, _, rfl, rfl, ?_⟩
    refine st_eq (σ' := [some (.ref bx), some (.ref d), some (.ref g), some (.ref s), some (.int c), none, none, some (.ref ln), some (.int st.beg), some (.int st.needed), some (.int st.next), some (.int st.safe), some (.ref mk), some (.ref ct), none, none, none]) rfl ?_
    refine ⟨_, rfl, _, rfl, _, rfl, _, _, rfl, rfl, _, rfl, ln, lv, rfl, SqL.of hln, fun p0 hp0 => ?_⟩
    have ecut : cutV lv (some ((st.safe : Int) - (st.beg : Int))) none = lv.drop (st.safe - st.beg) := by rw [show (st.safe : Int) - (st.beg : Int) = ((st.safe - st.beg : Nat) : Int) by omega, cut_n _ _ (by omega)]
    rw [ecut]
    have s0 := sameNew (o := .lst (lv.drop (st.safe - st.beg))) hp0
    have hA := fun r (h2 : r ∈ st.line.drop (st.safe - st.beg)) => a.W.recs r (List.drop_subset _ _ h2)
    have hdl : (st.line.drop (st.safe - st.beg)).length ≤ 100 := by rw [List.length_drop]; have := a.W.t1; omega
    refine ⟨p0, _, st.line.drop (st.safe - st.beg), rfl, upd_same, pr_drop _ (hlR.kp (Kp.same (fp := []) s0)), hdl, hA, fun H1 pg gv hpg hpg1 hG s1 hfr => ?_⟩
    have hgl := pr_len hG
    have s01 := s0.trans s1
    refine ⟨_, rfl, _, rfl, _, _, rfl, .inl ⟨_, SqL.of hpg1, rfl⟩, _, _, rfl, rfl, _, rfl, _, _, rfl, rfl, _, rfl, _, _, rfl, rfl, _, rfl, ?_⟩
    by_cases hfit : st.next + (pk8 (st.line.drop (st.safe - st.beg))).length ≤ st.needed + c
    · refine ifF (decide_eq_false (by omega)) ?_
      exact hr1 H1 pg gv _ s01 hpg1 hG (s0.free hpg) (fun x hx => by
        obtain ⟨b, eb, _, hb⟩ := hfr x hx
        exact ⟨b, eb, s0.free hb⟩) (.inr rfl) hfit
    · refine ifT (decide_eq_true (by omega)) ⟨Nat.zero_le _, fun p2 hp2 => ?_⟩
      exact hr1 _ p2 [] [] (s01.trans (sameNew hp2)) upd_same .nil (s01.free hp2) (fun x hx => by cases hx) (.inl rfl) (by simpa using g4)
end
end K51
end L2
set_option Elab.async false
set_option linter.all false
set_option maxRecDepth 100000
set_option maxHeartbeats 4000000
/-! KE9: _law_step. -/
namespace L2
open PySem PySem.Spec PyProof.Rows
namespace K51
section
variable {P : Program} {w : World} {K : PySem.W.Frag} {mg : Str → Option Value} {base : Heap} {f : Addr} {fd : FuncData}
theorem All.mono {H0 H : Hp} {bx s ln mk g d k sh lo lr : Addr} {S : Pl} {c E t m m' : Nat} {st : Ls} (a : All K H0 H bx s ln mk g d k sh lo lr S c E st t m) (h : m ≤ m') : All K H0 H bx s ln mk g d k sh lo lr S c E st t m' := ⟨a.B.mono h, a.W, a.Z, a.apt, a.nb, a.fr⟩
/-! ### behind an append -/
theorem add_fin {H0 H H5 : Hp} {bx s ln mk g d k sh lo lr : Addr} {S : Pl} {c E t m : Nat} {st : Ls} {it s' l1 ct : Addr} {r rv lv : List V} (a : All K H0 H bx s ln mk g d k sh lo lr S c E st t m) (ht : t < 40) (kp : Kp [lr] H H5) (L5 : LgI K H5 g d c st.needed st.beg st.next lr (tlS E st.safe)) (hit : H it = some (.tup r)) (hr : RecA r)
    (h5l : H5 lr = some (.lst (rv ++ [.ref it]))) (hrR : Recs H rv st.line) (hlR : Recs H lv st.line) (fs' : H s' = none) (fl1 : H l1 = none) (h5s : H5 s' = some (.lst [.ref l1, .int st.beg, .int st.needed, .int st.next, .int st.safe, .ref mk, .ref ct])) (h5n : H5 l1 = some (.lst (lv ++ [.ref it]))) (hct : Mk3 H (.ref ct) st.cut) :
    All K H0 H5 bx s' l1 mk g d k sh lo lr S c E (RM.addR st r) (t + 1) m := by
  obtain ⟨xb, yb, zb, hbx, hb0, hbm⟩ := a.B
  obtain ⟨mv, hmk, hmR⟩ := a.Z.hm
  obtain ⟨_, hk, _⟩ := a.W.D.hk
  obtain ⟨_, hsh, _⟩ := a.W.D.hs
  obtain ⟨_, hlo, _⟩ := a.W.D.hl
  obtain ⟨rv0, hlr, _⟩ := a.W.hr
  obtain ⟨ddx, wr, hd⟩ := a.W.D.ins
  have hapb := a.apt bx (by simp)
  have hapm := a.apt mk (by simp)
  have sp := a.W.sep
  have hb1 := a.W.b1
  have hn1 := a.W.n1
  have hmks := a.W.mks
  have nbl : bx ∉ [lr] := by simp only [List.mem_cons, List.not_mem_nil, or_false, not_or] at hapb ⊢; exact hapb.2.2.2
  have nml : mk ∉ [lr] := by simp only [List.mem_cons, List.not_mem_nil, or_false, not_or] at hapm ⊢; exact hapm.2.2.2
  have apn : ∀ x, H x = none → x ∉ [k, sh, lo, lr] := fun x hx => by
    simp only [List.mem_cons, List.not_mem_nil, or_false, not_or]
    exact ⟨fun z => (by rw [z, hk] at hx; cases hx), fun z => (by rw [z, hsh] at hx; cases hx), fun z => (by rw [z, hlo] at hx; cases hx), fun z => (by rw [z, hlr] at hx; cases hx)⟩
  have hit5 := kp.tups _ _ hit
  refine ⟨⟨xb, yb, zb, kp.keep _ _ hbx nbl, hb0, hbm⟩, ⟨L5, a.W.D.kp kp (by simpa using ins_lst hd hlr) (by simpa using Ne.symm sp.rk) (by simpa using Ne.symm sp.rs) (by simpa using Ne.symm sp.ro), ⟨_, h5l, pr_append (hrR.kp kp) (pr_one ⟨it, rfl, hit5⟩)⟩, sp, RM.good_add a.W.good r, a.W.c1, a.W.c2, a.W.ok, a.W.e0, a.W.e1, a.W.e2, ?_, ?_, ?_, by omega, ?_⟩, ⟨⟨ct, h5s, Rec.kp kp hct⟩, ⟨_, h5n, pr_append (hlR.kp kp) (pr_one ⟨it, rfl, hit5⟩)⟩, ⟨mv, kp.keep _ _ hmk nml, Mk3.kp kp hmR⟩⟩, ?_, ?_, a.fr.kp kp (fun x hx => .inr (a.fr.new x (by simp only [List.mem_cons, List.not_mem_nil, or_false] at hx ⊢; simp [hx]))) a.fr.new⟩
  · intro x hx
    rcases List.mem_append.mp hx with h | h
    · exact a.W.recs x h
    · have : x = r := by simpa using h
      rw [this]; exact hr
  · show st.beg + (st.line ++ [r]).length ≤ t + 1
    rw [List.length_append, List.length_singleton]; omega
  · show st.next ≤ 100 * (t + 1)
    omega
  · show st.marks.length ≤ t + 1 + 2
    omega
  · intro x hx
    simp only [List.mem_cons, List.not_mem_nil, or_false] at hx
    rcases hx with rfl | rfl | rfl | rfl
    · exact apn _ fs'
    · exact apn _ fl1
    · exact hapm
    · exact hapb
  · have := a.nb
    simp only [List.mem_cons, List.not_mem_nil, or_false, not_or] at this ⊢
    exact ⟨fun z => (by rw [← z, hbx] at fs'; cases fs'), fun z => (by rw [← z, hbx] at fl1; cases fl1), this.2.2⟩
/-! ### behind a crash -/
section
variable {H0 H H1 : Hp} {bx s ln mk g d k sh lo lr : Addr} {S : Pl} {c E t m m1 : Nat} {st : Ls} {s1 ln1 mk1 k1 sh1 lo1 : Addr} {gs : List (List (List V))} {ks : List Nat} {n : Nat}
theorem crash_good (a : All K H0 H bx s ln mk g d k sh lo lr S c E st t m) (w : CrW K H0 H1 bx s1 ln1 mk1 d k1 sh1 lo1 S c E m1 st gs ks n) {E' : Nat} (hE : ∀ b p, RM.atB (RM.put S c (ks.filterMap fun i => (RM.parts st.next E st.safe gs)[i]?)) c b = some p → p.ep < E') (hf : st.cut.2.2 < E') :
    RM.Good (RM.put S c (ks.filterMap fun i => (RM.parts st.next E st.safe gs)[i]?)) c E' (RM.crashed st gs n E') :=
  RM.good_crash a.W.good w.W w.fit w.hks w.hn w.hin w.hout hE (Nat.le_of_lt hf)
theorem crash_len (a : All K H0 H bx s ln mk g d k sh lo lr S c E st t m) (w : CrW K H0 H1 bx s1 ln1 mk1 d k1 sh1 lo1 S c E m1 st gs ks n) : (st.line.take (st.safe + (gs.take n).flatten.length - st.beg)).length = st.safe + (gs.take n).flatten.length - st.beg ∧ st.beg ≤ st.safe + (gs.take n).flatten.length ∧ st.safe + (gs.take n).flatten.length ≤ st.beg + st.line.length := by
  have g1 := a.W.good.b1
  have g2 := a.W.good.b2
  have h1 := (RM.seg_more (gs := gs) n 0 g1 g2 w.W (Nat.zero_le _)).1
  rw [List.length_take]
  omega
theorem crash_opens (a : All K H0 H bx s ln mk g d k sh lo lr S c E st t m) (w : CrW K H0 H1 bx s1 ln1 mk1 d k1 sh1 lo1 S c E m1 st gs ks n) : ∃ ps l, RM.Chain (RM.put S c (ks.filterMap fun i => (RM.parts st.next E st.safe gs)[i]?)) c st.cut.1 st.cut.2.2 st.cut.2.1 ps (st.next + n) l (st.safe + (gs.take n).flatten.length) ∧
    RM.Stop (RM.put S c (ks.filterMap fun i => (RM.parts st.next E st.safe gs)[i]?)) c (st.next + n) l (st.safe + (gs.take n).flatten.length) ∧ RM.recsOf ps = st.line.take (st.safe + (gs.take n).flatten.length - st.beg) := by
  have hc := a.W.good.hc
  have hcut := (a.W.good.marks _ a.W.good.cutm).ep
  have hE : ∀ b p, RM.atB (RM.put S c (ks.filterMap fun i => (RM.parts st.next E st.safe gs)[i]?)) c b = some p → p.ep < E + 1 := fun b p hp => by
    rcases RM.put_cases hc b (ks.filterMap fun i => (RM.parts st.next E st.safe gs)[i]?) S a.W.good.len with ⟨h, _⟩ | ⟨p', hp', _, h⟩
    · rw [h] at hp
      have := a.W.good.top b p hp
      omega
    · rw [h] at hp
      cases hp
      obtain ⟨i, _, e⟩ := List.mem_filterMap.mp hp'
      have := (RM.parts_get E gs st.next st.safe i p e).2.1
      omega
  have G := crash_good a w hE (by omega)
  obtain ⟨ps, l, ch, stp, er⟩ := (G.marks _ G.cutm).op
  refine ⟨ps, l, ch, stp, ?_⟩
  rw [er]
  obtain ⟨e1, e2, e3⟩ := crash_len a w
  show RM.seg (st.line.take (st.safe + (gs.take n).flatten.length - st.beg)) (st.cut.2.1 - st.beg) (st.safe + (gs.take n).flatten.length - st.beg) = _
  unfold RM.seg
  rw [a.W.good.cut1, Nat.sub_self, List.drop_zero, List.take_take, Nat.min_self]
theorem crash_ok (a : All K H0 H bx s ln mk g d k sh lo lr S c E st t m) (w : CrW K H0 H1 bx s1 ln1 mk1 d k1 sh1 lo1 S c E m1 st gs ks n) : PlOk (RM.put S c (ks.filterMap fun i => (RM.parts st.next E st.safe gs)[i]?)) :=
  plok_put a.W.ok fun p hp => by
    obtain ⟨i, _, e⟩ := List.mem_filterMap.mp hp
    exact parts_ok (fun g hg => ⟨fun r hr => ((w.gok g hg).1 r hr).1, (w.gok g hg).2⟩) p (List.mem_of_getElem? e)
theorem crash_fin (a : All K H0 H bx s ln mk g d k sh lo lr S c E st t m) (ht : t < 40) (w : CrW K H0 H1 bx s1 ln1 mk1 d k1 sh1 lo1 S c E m1 st gs ks n) {H6 : Hp} {x lr6 mk6 ct tm : Addr} {E' : Nat} {rv lv : List V} (hE : ∀ b p, RM.atB (RM.put S c (ks.filterMap fun i => (RM.parts st.next E st.safe gs)[i]?)) c b = some p → p.ep < E') (hf : st.cut.2.2 < E')
    (B6 : Bx H6 bx m1) (D6 : DkAt K H6 d k1 sh1 lo1 (RM.put S c (ks.filterMap fun i => (RM.parts st.next E st.safe gs)[i]?)) (RM.put S c (ks.filterMap fun i => (RM.parts st.next E st.safe gs)[i]?)) [] .non) (L6 : LgI K H6 x d c st.cut.1 st.cut.2.1 ((st.next + n : Nat) : Int) lr6 (tlS E' ((st.safe + (gs.take n).flatten.length : Nat) : Int)))
    (h6l : H6 lr6 = some (.lst rv)) (hrR : Recs H6 rv (st.line.take (st.safe + (gs.take n).flatten.length - st.beg))) (h6s : H6 s1 = some (.lst [.ref ln1, .int st.beg, .int st.needed, .int ((st.next + n : Nat) : Int), .int ((st.safe + (gs.take n).flatten.length : Nat) : Int), .ref mk6, .ref ct])) (hct : Mk3 H6 (.ref ct) st.cut)
    (h6n : H6 ln1 = some (.lst lv)) (hlR : Recs H6 lv (st.line.take (st.safe + (gs.take n).flatten.length - st.beg))) (h6m : H6 mk6 = some (.lst [.ref ct, .ref tm])) (htm : H6 tm = some (.tup [.int ((st.next + n : Nat) : Int), .int ((st.safe + (gs.take n).flatten.length : Nat) : Int), .int E']))
    (nxd : x ≠ d) (nl : lr6 ∉ [k1, sh1, lo1]) (nq : ∀ y ∈ [s1, ln1, mk6, bx], y ≠ lr6) (nm : mk6 ∉ [k1, sh1, lo1]) (nbm : bx ≠ mk6) (fr6 : Frm H0 H6 bx [x, d, k1, sh1, lo1, lr6]) : All K H0 H6 bx s1 ln1 mk6 x d k1 sh1 lo1 lr6 (RM.put S c (ks.filterMap fun i => (RM.parts st.next E st.safe gs)[i]?)) c E' (RM.crashed st gs n E') (t + 1) m1 := by
  obtain ⟨e1, e2, e3⟩ := crash_len a w
  have hap := w.apt
  have hb1 := a.W.b1
  have hn1 := a.W.n1
  have g3 := a.W.good.n1
  have g5 := w.fit
  have c1 := a.W.c1
  have c2 := a.W.c2
  have hn := w.hn
  have c0 := a.W.good.cut0
  have c3 := a.W.good.cut1
  simp only [List.mem_cons, List.not_mem_nil, or_false, not_or] at nl nm
  refine ⟨B6, ⟨?_, D6, ⟨rv, h6l, hrR⟩, ⟨nxd, nl.1, nl.2.1, nl.2.2⟩, crash_good a w hE hf, c1, c2, crash_ok a w, ?_, ?_, ?_, ?_, ?_, ?_, by omega, ?_⟩, ⟨⟨ct, h6s, hct⟩, ⟨lv, h6n, hlR⟩, ⟨_, h6m, ?_⟩⟩, ?_, ?_, fr6⟩
  · rw [c0, c3] at L6
    exact L6
  · rw [put_out (by omega) (by omega)]; exact a.W.e0
  · rw [put_out (by omega) (by omega)]; exact a.W.e1
  · rw [put_out (by omega) (by omega)]; exact a.W.e2
  · intro r hr
    exact a.W.recs r (List.take_subset _ _ hr)
  · show st.beg + (st.line.take (st.safe + (gs.take n).flatten.length - st.beg)).length ≤ t + 1
    omega
  · show st.next + n ≤ 100 * (t + 1)
    omega
  · show 2 ≤ t + 1 + 2
    omega
  · exact .cons hct (.cons ⟨tm, rfl, htm⟩ .nil)
  · intro y hy
    have h1 := nq y hy
    simp only [List.mem_cons, List.not_mem_nil, or_false] at hy
    have h2 : y ≠ k1 ∧ y ≠ sh1 ∧ y ≠ lo1 := by
      rcases hy with rfl | rfl | rfl | rfl
      · have := hap y (by simp)
        simp only [List.mem_cons, List.not_mem_nil, or_false, not_or] at this; exact this
      · have := hap y (by simp)
        simp only [List.mem_cons, List.not_mem_nil, or_false, not_or] at this; exact this
      · exact nm
      · have := hap y (by simp)
        simp only [List.mem_cons, List.not_mem_nil, or_false, not_or] at this; exact this
    simp only [List.mem_cons, List.not_mem_nil, or_false, not_or]
    exact ⟨h2.1, h2.2.1, h2.2.2, h1⟩
  · have := w.nb
    simp only [List.mem_cons, List.not_mem_nil, or_false, not_or] at this ⊢
    exact ⟨this.1, this.2.1, nbm⟩
end
end
end K51
end L2
set_option Elab.async false
set_option linter.all false
set_option maxRecDepth 100000
set_option maxHeartbeats 4000000
/-! KE10: _law_step. -/
namespace L2
open PySem PySem.Spec PyProof.Rows
namespace K51
section
variable {P : Program} {w : World} {K : PySem.W.Frag} {mg : Str → Option Value} {base : Heap} {f : Addr} {fd : FuncData}
abbrev sStep : Stmt := topS 36
abbrev psLog : List Str := ["self", "disk", "first", "count", "block", "record", "floor"]
/-- a new Log: six arguments, three arguments -/
def KnLog (P : Program) (w : World) (K : PySem.W.Frag) (mg : Str → Option Value) (base : Heap) : Prop := ∃ fd, FnOk P w K mg base (L2.CX P w) 6 (mL K "__init__") fd psLog (spLogI K) ∧ (∃ ds, Vals [] ds ∧ Binds K fd psLog ds) ∧ ∃ ds, Vals [V.int 0, .int 0, .int 0] ds ∧ Binds K fd psLog ds
def spStep (K : PySem.W.Frag) : Sp := fun vs H Q _ => ∃ (H0 : Hp) (bx s ln mk g d k sh lo lr : Addr) (S : Pl) (c E t m : Nat) (st : Ls), vs = [.ref bx, .ref d, .ref g, .ref s, .int c] ∧ All K H0 H bx s ln mk g d k sh lo lr S c E st t m ∧ t < 40 ∧ m ≤ 700000 ∧
  ∀ H' p g' s' ln' mk' k' sh' lo' lr' S' E' st', H' p = some (.tup [.ref g', .ref s']) → All K H0 H' bx s' ln' mk' g' d k' sh' lo' lr' S' c E' st' (t + 1) (m + 200) → Q (.ref p) H'
abbrev nmStep : List Str := ["_law_box_here", "_law_plate", "_law_roll", "_law_state", "_law_ring", "_law_way", "_law_item", "_law_fine", "_law_later"]
theorem scStep : FnScope ["_law_box_here", "_law_plate", "_law_roll", "_law_state", "_law_ring", "_law_way", "_law_item", "_law_fine", "_law_later"] ["_law_box_here", "_law_plate", "_law_roll", "_law_state", "_law_ring"] (defScope sStep) := ⟨rfl, rfl, rfl, by decide +kernel, rfl, by decide +kernel, by decide +kernel⟩
theorem ok_step (T : Tx K mg) (kT : Kn P w K mg base (L2.CX P w) 1 (He.ga K "_law_take") ["_law_box_here", "_law_below"] spTake) (kR : Kn P w K mg base (L2.CX P w) 4 (He.ga K "_law_record") ["_law_box_here"] spRecord) (kS : KnG P w K mg base (L2.CX P w) 1 (He.ga K "_law_same") ["_law_found", "_law_due"] (spSame K)) (kD : Kn P w K mg base (L2.CX P w) 7 (He.ga K "_law_told") ["_law_roll", "_law_deed"] (spTold K))
    (kF : KnG P w K mg base (L2.CX P w) 8 (He.ga K "_law_flushed") ["_law_roll", "_law_state", "_law_ring"] (spFlushed K)) (kC : KnG P w K mg base (L2.CX P w) 8 (He.ga K "_law_cut") ["_law_box_here", "_law_roll", "_law_state"] (spLCut K)) (kCr : Kn P w K mg base (L2.CX P w) 8 (He.ga K "_law_crashed") ["_law_box_here", "_law_plate", "_law_roll", "_law_state", "_law_ring"] (spCrashed K))
    (kL : KnLog P w K mg base) (kE : Kn P w K mg base (L2.CX P w) 1 (mL K "epoch") ["self"] (spEpoch K)) (F : FnP K "_law_step" "_law_step" sStep f fd) : FnG P w K mg base (L2.CX P w) 9 f fd ["_law_box_here", "_law_plate", "_law_roll", "_law_state", "_law_ring"] (spStep K) := by
  have sc := scStep
  obtain ⟨_, G__law_take, b__law_take, k__law_take⟩ := kT
  obtain ⟨_, G__law_record, b__law_record, k__law_record⟩ := kR
  obtain ⟨_, G__law_same, b__law_same, k__law_same⟩ := kS
  obtain ⟨_, G__law_told, b__law_told, k__law_told⟩ := kD
  obtain ⟨_, G__law_flushed, b__law_flushed, k__law_flushed⟩ := kF
  obtain ⟨_, G__law_cut, b__law_cut, k__law_cut⟩ := kC
  obtain ⟨_, G__law_crashed, b__law_crashed, k__law_crashed⟩ := kCr
  obtain ⟨_, G_Log, ⟨_, d_Log, b_Log⟩, _⟩ := kL
  obtain ⟨_, G_L_epoch, b_L_epoch, _⟩ := kE
  refine okG F sc (fun vs H Q E h => ?_) (fun cdv A outer ss H vs Q E hgd hr h => ?_)
  · obtain ⟨_, _, _, _, _, _, _, _, _, _, _, _, _, _, _, _, _, rfl, _⟩ := h
    rfl
  · obtain ⟨H0, bx, s, ln, mk, g, d, k, sh, lo, lr, S, c, E', t, m, st, rfl, a, ht40, hm, q⟩ := h
    refine ⟨_, PSs.nox (pss_cons (ps_set (i := 5) sc.nd rfl (Or.inl rfl) (pe_call G__law_take (hr.mono (by decide)) rfl (T.gw "_law_take" (by decide +kernel)) k__law_take b__law_take .nil passL (pa_cons (pv 0) (pa_cons pe_int pa_nil))))
  (pss_cons (ps_if (pt_cmpR op_lt (pv 5) pe_int (nomark _))
  (pss_cons (ps_set (i := 6) sc.nd rfl (Or.inl rfl) (pe_call G__law_record (hr.mono (by decide)) rfl (T.gw "_law_record" (by decide +kernel)) k__law_record b__law_record .nil passL (pa_cons (pv 0) pa_nil)))
  (pss_cons (ps_set (i := 7) sc.nd rfl (Or.inl rfl) (pe_callG G__law_same hgd (hr.mono (by decide)) rfl (T.gw "_law_same" (by decide +kernel)) k__law_same b__law_same .nil passL (pa_cons (pe_call G__law_told (hr.mono (by decide)) rfl (T.gw "_law_told" (by decide +kernel)) k__law_told b__law_told .nil passL (pa_cons (pv 2) (pa_cons (pe_tup (pa_cons pe_str (pa_cons (pv 6) pa_nil))) pa_nil))) (pa_cons (pe_tup (pa_cons pe_str (pa_cons (pe_op op_add (pe_ix ix_list (pv 3) pe_int (fun _ _ => rfl)) (pe_callB call_len (by rfl) (T.fr "len" (by decide +kernel)) (by decide +kernel) (pa_cons (pe_ix ix_list (pv 3) pe_int (fun _ _ => rfl)) pa_nil))) pa_nil))) pa_nil))))
  (pss_one (ps_ret (pe_ifExp (pt_val (pv 7)) (pe_tup (pa_cons (pv 2) (pa_cons (pe_op op_cat (pe_lst (pa_cons (pe_op op_cat (pe_ix ix_list (pv 3) pe_int (fun _ _ => rfl)) (pe_lst (pa_cons (pv 6) pa_nil))) pa_nil)) (pe_slice sl_list (pv 3) (po_some pe_int) po_none)) pa_nil))) pe_non)))))
  pss_nil)
  (pss_cons (ps_if (pt_cmpR op_lt (pv 5) pe_int (nomark _))
  (pss_one (ps_set (i := 8) sc.nd rfl (Or.inl rfl) (pe_callG G__law_flushed hgd (hr.mono (by decide)) rfl (T.gw "_law_flushed" (by decide +kernel)) k__law_flushed b__law_flushed .nil passL (pa_cons (pv 2) (pa_cons (pv 3) (pa_cons (pv 4) pa_nil))))))
  (pss_one (ps_if (pt_cmpR op_lt (pv 5) pe_int (nomark _))
  (pss_one (ps_set (i := 8) sc.nd rfl (Or.inl rfl) (pe_callG G__law_cut hgd (hr.mono (by decide)) rfl (T.gw "_law_cut" (by decide +kernel)) k__law_cut b__law_cut .nil passL (pa_cons (pv 0) (pa_cons (pv 2) (pa_cons (pv 3) pa_nil))))))
  (pss_cons (ps_set (i := 8) sc.nd rfl (Or.inl rfl) (pe_call G__law_crashed (hr.mono (by decide)) rfl (T.gw "_law_crashed" (by decide +kernel)) k__law_crashed b__law_crashed .nil passL (pa_cons (pv 0) (pa_cons (pv 1) (pa_cons (pv 2) (pa_cons (pv 3) (pa_cons (pv 4) pa_nil)))))))
  (pss_one (ps_if (pt_cmp (pc_notN (pv 8)))
  (pss_cons (ps_set (i := 2) sc.nd rfl (Or.inl rfl) (pe_make T.mkL G_Log (hr.mono (by decide)) (by rfl) (T.gl "Log" (by decide +kernel)) b_Log d_Log passL (pa_cons (pv 1) (pa_cons pe_int (pa_cons (pv 4) (pa_cons (pe_ix ix_tup (pe_ix ix_list (pv 8) pe_int (fun _ _ => rfl)) pe_int (fun _ _ => rfl)) (pa_cons (pe_ix ix_tup (pe_ix ix_list (pv 8) pe_int (fun _ _ => rfl)) pe_int (fun _ _ => rfl)) (pa_cons (pe_ix ix_tup (pe_ix ix_list (pv 8) pe_int (fun _ _ => rfl)) pe_int (fun _ _ => rfl)) pa_nil))))))))
  (pss_one (ps_asg (pe_op op_cat (pe_ix ix_list (pv 8) pe_int (fun _ _ => rfl)) (pe_lst (pa_cons (pe_tup (pa_cons (pe_ix ix_list (pv 8) pe_int (fun _ _ => rfl)) (pa_cons (pe_ix ix_list (pv 8) pe_int (fun _ _ => rfl)) (pa_cons (pe_meth0 (pv 2) T.clL (T.meL "epoch" (by decide +kernel)) G_L_epoch (hr.mono (by decide)) b_L_epoch .nil passL) pa_nil)))) pa_nil))) (pg_sub (pv 8) pe_int set_list))))
  pss_nil))))))
  (pss_one (ps_ret (pe_ifExp (pt_cmp (pc_isN (pv 8))) pe_non (pe_tup (pa_cons (pv 2) (pa_cons (pv 8) pa_nil))))))))), ?_⟩
    refine ⟨_, rfl, bx, m, 9, rfl, a.B, by decide, by decide, by omega, fun H1 way hway hb1 k1 => ?_⟩
    have a1 := a.box k1 hb1
    refine ⟨_, rfl, _, _, rfl, rfl, _, rfl, ?_⟩
    by_cases hw4 : (way : Int) < 4
    · refine ifT (decide_eq_true hw4) ?_
      refine ⟨_, rfl, bx, m + 1, rfl, a1.B, by omega, fun H2 it r hit0 hit hrA hb2 k2 => ?_⟩
      have a2 := a1.box k2 hb2
      obtain ⟨ct, hs, hct⟩ := a2.Z.hs
      obtain ⟨lv, hln, hlR⟩ := a2.Z.hl
      obtain ⟨rv, hrv, hrR⟩ := a2.W.hr
      have e1 := pr_len hlR
      have e2 := pr_len hrR
      have e3 : lv.length = rv.length := by omega
      have hb1' := a.W.b1
      have ht1 := a.W.t1
      have hapt := a.apt
      have nls : s ∉ [lr] := by have := hapt s (by simp); simp only [List.mem_cons, List.not_mem_nil, or_false, not_or] at this ⊢; exact this.2.2.2
      have nll : ln ∉ [lr] := by have := hapt ln (by simp); simp only [List.mem_cons, List.not_mem_nil, or_false, not_or] at this ⊢; exact this.2.2.2
      have i0 : atI [V.ref ln, .int st.beg, .int st.needed, .int st.next, .int st.safe, .ref mk, .ref ct] 0 = some (.ref ln) := atI_nat (j := 0) rfl
      have i1 : atI [V.ref ln, .int st.beg, .int st.needed, .int st.next, .int st.safe, .ref mk, .ref ct] 1 = some (.int st.beg) := atI_nat (j := 1) rfl
      refine ⟨_, rfl, _, rfl, (by show 2 ≤ sizeLine; decide), fun q1 hq1 => ?_⟩
      have s1 := sameNew (o := .tup [.str "append", .ref it]) hq1
      unfold tNil
      refine told_app (E := E0) (a2.same s1).W.L (s1 _ _ hrv) upd_same (s1 _ _ hit) (by omega) fun H3 p0 kp3 L3 h3l hp0 hp3 => ?_
      have kp23 : Kp [lr] H2 H3 := (Kp.same (fp := [lr]) s1).trans kp3
      have hs3 := kp23.keep _ _ hs nls
      have hln3 := kp23.keep _ _ hln nll
      refine ⟨_, rfl, _, _, _, _, rfl, rfl, SqL.of hs3, i1, _, rfl, _, _, _, _, rfl, rfl, SqL.of hs3, i0, _, _, rfl, .inl ⟨_, SqL.of hln3, rfl⟩, _, _, rfl, rfl, (by show 2 ≤ sizeLine; decide), fun q2 hq2 => ?_⟩
      refine same_by (E := E0) (x := "told") (d := .int ((st.beg : Int) + rv.length)) (by simp) (at_new hq2 hp3) upd_same (.int _) (by rw [e3]; exact .int _) (fi_int (small_z (by omega) (by omega))) ?_
      have s4 := sameNew (o := .tup [.str "told", .int ((st.beg : Int) + lv.length)]) hq2
      have hs4 := s4 _ _ hs3
      have hln4 := s4 _ _ hln3
      refine ⟨_, rfl, _, rfl, iteT ⟨_, rfl, _, rfl, _, _, _, _, rfl, rfl, SqL.of hs4, i0, _, rfl, (by show 1 ≤ sizeLine; decide), fun l0 hl0 => ?_⟩⟩
      have s5 := sameNew (o := .lst [.ref it]) hl0
      refine ⟨ln, l0, lv, _, rfl, rfl, s5 _ _ hln4, upd_same, (by rw [sizeLine_eq, List.length_singleton]; omega), fun l1 hl1 => ⟨(by show 1 ≤ sizeLine; decide), fun l2 hl2 => ?_⟩⟩
      have s6 := sameNew (o := .lst (lv ++ [.ref it])) hl1
      have s7 := sameNew (o := .lst [.ref l1]) hl2
      have s57 := (s5.trans s6).trans s7
      refine ⟨_, rfl, _, rfl, s, _, rfl, SqL.of (s57 _ _ hs4), fun l3 hl3 => ?_⟩
      rw [show cutV [V.ref ln, .int st.beg, .int st.needed, .int st.next, .int st.safe, .ref mk, .ref ct] (some 1) none = [.int st.beg, .int st.needed, .int st.next, .int st.safe, .ref mk, .ref ct] from cut_n _ 1 (by show 1 ≤ 7; decide)]
      have s8 := sameNew (o := .lst [.int st.beg, .int st.needed, .int st.next, .int st.safe, .ref mk, .ref ct]) hl3
      refine ⟨l2, l3, [.ref l1], _, rfl, rfl, at_new hl3 upd_same, upd_same, (by show 1 + 6 ≤ sizeLine; decide), fun s' hs' => ⟨(by show 2 ≤ sizeLine; decide), fun p hp => ?_⟩⟩
      have s9 := sameNew (o := .lst ([.ref l1] ++ [.int st.beg, .int st.needed, .int st.next, .int st.safe, .ref mk, .ref ct])) hs'
      have s10 := sameNew (o := .tup [.ref g, .ref s']) hp
      have s38 := (s4.trans s57).trans s8
      have sAll := (s38.trans s9).trans s10
      have fr : ∀ x, H3 x = none → H2 x = none := fun x hx => kp23.free hx (by
        have : x ≠ lr := fun z => by rw [z, h3l] at hx; cases hx
        simpa using this)
      have fs' := fr _ (s38.free hs')
      have fl1 := fr _ ((s4.trans s5).free hl1)
      exact q _ p g s' l1 mk k sh lo lr S E' _ upd_same ((add_fin (it := it) (rv := rv) (lv := lv) (r := r) (ct := ct) a2 ht40 (kp23.trans (Kp.same sAll)) (L3.same sAll) hit hrA (sAll _ _ h3l) hrR hlR fs' fl1 (at_new hp upd_same) ((s7.trans (s8.trans (s9.trans s10))) _ _ upd_same) hct).mono (by omega))
    · refine ifF (decide_eq_false hw4) ?_
      refine ⟨_, rfl, _, _, rfl, rfl, _, rfl, ?_⟩
      by_cases hw6 : (way : Int) < 6
      · refine ifT (decide_eq_true hw6) ?_
        refine ⟨_, rfl, _, rfl, _, rfl, ?_⟩
        refine ⟨H0, bx, s, ln, mk, g, d, k, sh, lo, lr, S, c, E', t, m + 1, st, rfl, a1, ht40, fun H2 s' ln' mk' k' sh' lo' lr' S' st' a2 => ?_⟩
        refine ⟨_, rfl, _, rfl, iteF ⟨_, rfl, _, rfl, (by show 2 ≤ sizeLine; decide), fun p hp => ?_⟩⟩
        exact q _ p g s' ln' mk' k' sh' lo' lr' S' E' st' upd_same ((a2.same (sameNew hp)).mono (by omega))
      · refine ifF (decide_eq_false hw6) ?_
        refine ⟨_, rfl, _, _, rfl, rfl, _, rfl, ?_⟩
        by_cases hw8 : (way : Int) < 8
        · refine ifT (decide_eq_true hw8) ?_
          refine ⟨_, rfl, _, rfl, _, rfl, ?_⟩
          refine ⟨H0, bx, s, ln, mk, g, d, k, sh, lo, lr, S, c, E', t, m + 1, st, rfl, a1, ht40, by omega, fun H2 s' ln' mk' k' sh' lo' lr' S' st' a2 => ?_⟩
          refine ⟨_, rfl, _, rfl, iteF ⟨_, rfl, _, rfl, (by show 2 ≤ sizeLine; decide), fun p hp => ?_⟩⟩
          exact q _ p g s' ln' mk' k' sh' lo' lr' S' E' st' upd_same ((a2.same (sameNew hp)).mono (by omega))
        · refine ifF (decide_eq_false hw8) ?_
          refine ⟨_, rfl, _, rfl, _, rfl, _, rfl, _, rfl, ?_⟩
          refine ⟨H0, bx, s, ln, mk, g, d, k, sh, lo, lr, S, c, E', t, m + 1, st, rfl, a1, ht40, by omega, fun H2 s' ln' mk' k' sh' lo' gs ks n w2 => ?_⟩
          refine ⟨_, rfl, _, rfl, iteT ?_⟩
          obtain ⟨ct, hs2, hmk2, hct2⟩ := w2.hs
          obtain ⟨lv2, hln2, hlR2⟩ := w2.hl
          obtain ⟨tc, etc, hct3⟩ := id hct2
          cases etc
          have c1 := a.W.c1
          have c2 := a.W.c2
          have hn := w2.hn
          have ht1 := a.W.t1
          have hb1' := a.W.b1
          obtain ⟨ps, l, hch, hst, hrec⟩ := crash_opens a w2
          obtain ⟨z1, z2, z3⟩ := crash_len a w2
          have hS2 : (RM.put S c (ks.filterMap fun i => (RM.parts st.next E' st.safe gs)[i]?)).length = c + 3 := by rw [RM.put_length]; exact a.W.good.len
          have j6 : atI [V.ref ln', .int st.beg, .int st.needed, .int ((st.next + n : Nat) : Int), .int ((st.safe + (gs.take n).flatten.length : Nat) : Int), .ref mk', .ref ct] 6 = some (.ref ct) := atI_nat (j := 6) rfl
          have j5 : atI [V.ref ln', .int st.beg, .int st.needed, .int ((st.next + n : Nat) : Int), .int ((st.safe + (gs.take n).flatten.length : Nat) : Int), .ref mk', .ref ct] 5 = some (.ref mk') := atI_nat (j := 5) rfl
          have j4 : atI [V.ref ln', .int st.beg, .int st.needed, .int ((st.next + n : Nat) : Int), .int ((st.safe + (gs.take n).flatten.length : Nat) : Int), .ref mk', .ref ct] 4 = some (.int ((st.safe + (gs.take n).flatten.length : Nat) : Int)) := atI_nat (j := 4) rfl
          have j3 : atI [V.ref ln', .int st.beg, .int st.needed, .int ((st.next + n : Nat) : Int), .int ((st.safe + (gs.take n).flatten.length : Nat) : Int), .ref mk', .ref ct] 3 = some (.int ((st.next + n : Nat) : Int)) := atI_nat (j := 3) rfl
          have i0 : atI [V.int st.cut.1, .int st.cut.2.1, .int st.cut.2.2] 0 = some (.int st.cut.1) := atI_nat (j := 0) rfl
          have i1 : atI [V.int st.cut.1, .int st.cut.2.1, .int st.cut.2.2] 1 = some (.int st.cut.2.1) := atI_nat (j := 1) rfl
          have i2 : atI [V.int st.cut.1, .int st.cut.2.1, .int st.cut.2.2] 2 = some (.int st.cut.2.2) := atI_nat (j := 2) rfl
          refine ⟨_, rfl, _, rfl, _, rfl, _, _, _, _, rfl, rfl, SqL.of hs2, j6, _, _, _, _, rfl, rfl, SqT.of hct3, i0, _, rfl, _, _, _, _, rfl, rfl, SqL.of hs2, j6, _, _, _, _, rfl, rfl, SqT.of hct3, i1, _, rfl, _, _, _, _, rfl, rfl, SqL.of hs2, j6, _, _, _, _, rfl, rfl, SqT.of hct3, i2, ?_⟩
          intro x dx hx hdx hne
          have s3 : Same H2 (upd (upd H2 dx (.own x)) x (.ins (CL K) dx [])) := (sameNew hdx).trans (sameNew (by rw [upd_ne (Ne.symm hne)]; exact hx))
          refine ⟨x, d, dx, c, st.cut.1, st.cut.2.1, st.cut.2.2, k', sh', lo', _, _, [], .non, ps, st.next + n, l, _, rfl, upd_same, w2.D.same s3, by omega, by omega, hS2, crash_ok a w2, hch, hst, by rw [hrec, List.length_take]; omega, fun H4 lr4 rv E4 hE hfl hlr4 L4 D4 hl4 hR4 kp4 => ⟨rfl, ?_⟩⟩
          rw [hrec] at hR4
          have s4 : Same H2 H4 := fun b o e => kp4.keep b o (s3 _ _ e) (by simpa using ne_of_none e hx)
          have flr : H2 lr4 = none := s3.free hlr4
          obtain ⟨ht4, gx4, hg4⟩ := L4
          refine ⟨_, rfl, _, _, _, _, rfl, rfl, SqL.of (s4 _ _ hs2), j5, _, rfl, _, _, _, _, rfl, rfl, SqL.of (s4 _ _ hs2), j3, _, rfl, _, _, _, _, rfl, rfl, SqL.of (s4 _ _ hs2), j4, _, rfl, x, gx4, _, rfl, hg4, lg_meth ht4 _ (by decide +kernel), ?_⟩
          refine ⟨x, d, c, _, _, _, lr4, _, _, rfl, ⟨ht4, gx4, hg4⟩, (by show 3 ≤ sizeLine; decide), fun tm htm => ⟨(by show 1 ≤ sizeLine; decide), fun l1 hl1 => ?_⟩⟩
          have s5 := sameNew (o := .tup [.int ((st.next + n : Nat) : Int), .int ((st.safe + (gs.take n).flatten.length : Nat) : Int), .int (E4 : Int)]) htm
          have s6 := sameNew (o := .lst [.ref tm]) hl1
          refine ⟨mk', l1, [.ref ct], [.ref tm], rfl, rfl, s6 _ _ (s5 _ _ (s4 _ _ hmk2)), upd_same, (by show 1 + 1 ≤ sizeLine; decide), fun l2 hl2 => ?_⟩
          have s7 := sameNew (o := .lst ([.ref ct] ++ [.ref tm])) hl2
          have s47 := (s5.trans s6).trans s7
          have s27 := s4.trans s47
          refine ⟨_, rfl, s', _, 5, 5, rfl, rfl, s27 _ _ hs2, rfl, ?_⟩
          have kp8 : Kp [s'] (upd (upd (upd H4 tm (.tup [.int ((st.next + n : Nat) : Int), .int ((st.safe + (gs.take n).flatten.length : Nat) : Int), .int (E4 : Int)])) l1 (.lst [.ref tm])) l2 (.lst ([.ref ct] ++ [.ref tm]))) _ := Kp.put (o := .lst [.ref ln', .int st.beg, .int st.needed, .int ((st.next + n : Nat) : Int), .int ((st.safe + (gs.take n).flatten.length : Nat) : Int), .ref l2, .ref ct]) (s27 _ _ hs2) (fun _ z => by cases z) (by simp)
          refine ⟨_, rfl, _, rfl, iteF ⟨_, rfl, _, rfl, (by show 2 ≤ sizeLine; decide), fun p hp => ?_⟩⟩
          have s9 := sameNew (o := .tup [.ref x, .ref s']) hp
          have kp9 := kp8.trans (Kp.same (fp := [s']) s9)
          have kp29 : Kp [s'] H2 _ := (Kp.same (fp := [s']) s27).trans kp9
          obtain ⟨xb, yb, zb, hbx, hbb, hbm⟩ := w2.B
          have hnb := w2.nb
          have hapw := w2.apt
          obtain ⟨dx2, wr2, hd2⟩ := w2.D.ins
          obtain ⟨_, hk2, _⟩ := w2.D.hk
          obtain ⟨_, hsh2, _⟩ := w2.D.hs
          obtain ⟨_, hlo2, _⟩ := w2.D.hl
          have nsx : ∀ y ∈ [k', sh', lo'], y ∉ [s'] := fun y hy z => by
            have e : y = s' := by simpa using z
            subst e
            exact hapw y (by simp) hy
          have nds : d ∉ [s'] := by
            have : d ≠ s' := ins_lst hd2 hs2
            simpa using this
          have nlr : lr4 ≠ s' := fun z => by rw [z, hs2] at flr; cases flr
          have nxs : x ∉ [s'] := by
            have : x ≠ s' := fun z => by rw [z, hs2] at hx; cases hx
            simpa using this
          have nbs : bx ∉ [s'] := by
            simp only [List.mem_cons, List.not_mem_nil, or_false, not_or] at hnb ⊢
            exact hnb.1
          have fl2 : H2 l2 = none := by
            have h1 : H4 l2 = none := (s5.trans s6).free hl2
            exact s4.free h1
          refine q _ p x s' ln' l2 k' sh' lo' lr4 _ E4 _ upd_same ((crash_fin a ht40 w2 (x := x) (lr6 := lr4) (mk6 := l2) (ct := ct) (tm := tm) (rv := rv) (lv := lv2) hE hfl ⟨xb, yb, zb, kp29.keep _ _ hbx nbs, hbb, hbm⟩ (w2.D.kp kp29 nds (nsx _ (by simp)) (nsx _ (by simp)) (nsx _ (by simp))) ?_ (kp9.keep _ _ (s47 _ _ hl4) (by simpa using nlr)) (hR4.kp ((Kp.same (fp := [s']) s47).trans kp9)) (s9 _ _ upd_same) (Rec.kp kp29 hct2) (kp29.keep _ _ hln2 (by simpa using Ne.symm w2.nsl)) (hlR2.kp kp29) (kp9.keep _ _ upd_same ?_) (kp9.tups _ _ (s7 _ _ (s6 _ _ upd_same))) ?_ ?_ ?_ ?_ ?_ (w2.fr.kp kp29 (fun y hy => .inr (w2.fr.new y (by simp only [List.mem_cons, List.not_mem_nil, or_false] at hy ⊢; simp [hy]))) ?_)).mono (by omega))
          · exact ⟨ht4, gx4, kp9.keep _ _ (s47 _ _ hg4) nxs⟩
          · have : l2 ≠ s' := fun z => by rw [z, hs2] at fl2; cases fl2
            simpa using this
          · exact fun z => by rw [z, hd2] at hx; cases hx
          · simp only [List.mem_cons, List.not_mem_nil, or_false, not_or]
            exact ⟨fun z => (by rw [z, hk2] at flr; cases flr), fun z => (by rw [z, hsh2] at flr; cases flr), fun z => (by rw [z, hlo2] at flr; cases flr)⟩
          · intro y hy
            simp only [List.mem_cons, List.not_mem_nil, or_false] at hy
            rcases hy with rfl | rfl | rfl | rfl
            · exact Ne.symm nlr
            · exact fun z => by rw [← z, hln2] at flr; cases flr
            · exact fun z => by
                have h4 : H4 y = none := (s5.trans s6).free hl2
                rw [z, hl4] at h4; cases h4
            · exact fun z => by rw [← z, hbx] at flr; cases flr
          · simp only [List.mem_cons, List.not_mem_nil, or_false, not_or]
            exact ⟨fun z => (by rw [z, hk2] at fl2; cases fl2), fun z => (by rw [z, hsh2] at fl2; cases fl2), fun z => (by rw [z, hlo2] at fl2; cases fl2)⟩
          · exact fun z => by rw [← z, hbx] at fl2; cases fl2
          · intro y hy
            simp only [List.mem_cons, List.not_mem_nil, or_false] at hy
            rcases hy with rfl | rfl | rfl | rfl | rfl | rfl
            · exact w2.fr.fresh hbx hx
            · exact w2.fr.new _ (by simp)
            · exact w2.fr.new _ (by simp)
            · exact w2.fr.new _ (by simp)
            · exact w2.fr.new _ (by simp)
            · exact w2.fr.fresh hbx flr
end
end K51
end L2
set_option Elab.async false
set_option linter.all false
set_option maxRecDepth 100000
set_option maxHeartbeats 4000000
/-! KE11: _law_right. -/
namespace L2
open PySem PySem.Spec PyProof.Rows
namespace K51
theorem gn_eq {i : Nat} {v v' : V} {σ : L2.St} {H : Hp} {Q : L2.St → Hp → Prop} (e : v = v') (h : gName i v' σ H Q) : gName i v σ H Q := e ▸ h
theorem good_first {S : Pl} {c E : Nat} (hc : 0 < c) (hS : S.length = c + 3) (h : ∀ b, RM.atB S c b = none) : RM.Good S c E (RM.start (0, 0, 0) : Ls) where
  hc := hc
  len := hS
  b1 := Nat.le_refl _
  b2 := Nat.zero_le _
  n1 := Nat.le_refl _
  n2 := Nat.zero_le _
  low := fun b p e => by rw [h b] at e; cases e
  top := fun b p e => by rw [h b] at e; cases e
  marks := fun m hm => by
    have e : m = (0, 0, 0) := by simpa [RM.start] using hm
    subst e
    exact ⟨Nat.le_refl _, Nat.le_refl _, Nat.le_refl _, Nat.le_refl _, Nat.zero_le _, [], 0, .nil, (fun p e => by rw [h] at e; cases e), rfl⟩
  cutm := by simp [RM.start]
  cut0 := rfl
  cut1 := rfl
theorem rep_at (n c b : Nat) : RM.atB (List.replicate n (none : Option Pt)) c b = none := by
  unfold RM.atB
  rw [List.getD_eq_getElem?_getD, List.getElem?_replicate]
  split <;> rfl
theorem rep_getD (n j : Nat) : (List.replicate n (none : Option Pt)).getD j none = none := by
  rw [List.getD_eq_getElem?_getD, List.getElem?_replicate]
  split <;> rfl
section
variable {P : Program} {w : World} {K : PySem.W.Frag} {mg : Str → Option Value} {base : Heap} {f : Addr} {fd : FuncData}
/-- a block that is empty, read -/
theorem read0 {H : Hp} {d k sh lo : Addr} {kept S : Pl} {ls : List (Nat × Option Pt)} {l : V} {j : Nat} {Q : VK} {E : XK} (D : DkAt K H d k sh lo kept S ls l) (hj : j < S.length) (he : S.getD j none = none) (q : ∀ v, Rec H v [] → Q v H) : spRead K [.ref d, .int j] H Q E := by
  obtain ⟨⟨dx, wr, hd⟩, _, ⟨sv, hs, hB⟩, _, _, _, _⟩ := D
  have hl := pr_len hB
  have hv : sv[j]? = some sv[j] := List.getElem?_eq_getElem (by omega)
  obtain ⟨ob, e1, h1⟩ := pr_get hB hv
  have : ob = none := by
    rw [List.getD_eq_getElem?_getD, e1] at he
    exact he
  subst this
  exact ⟨d, j, dx, k, sh, lo, wr, l, sv, _, rfl, hd, hs, hv, q _ h1⟩
abbrev sRight : Stmt := topS 37
def spRight (K : PySem.W.Frag) : Sp := fun vs H Q _ => ∃ (bx : Addr) (m : Nat), vs = [.ref bx] ∧ Bx H bx m ∧ m ≤ 100000 ∧ ∀ H', Bx H' bx (m + 20000) → Kp [bx] H H' → Q (.bl true) H'
theorem scRight : FnScope ["_law_box_here", "_law_ring", "_law_plate", "_law_turn", "_law_roll", "_law_state", "_law_both", "_law_told_here"] ["_law_box_here"] (defScope sRight) := ⟨rfl, rfl, rfl, by decide +kernel, rfl, by decide +kernel, by decide +kernel⟩
theorem ok_right (T : Tx K mg) (kT : Kn P w K mg base (L2.CX P w) 1 (He.ga K "_law_take") ["_law_box_here", "_law_below"] spTake) (kS : KnG P w K mg base (L2.CX P w) 1 (He.ga K "_law_same") ["_law_found", "_law_due"] (spSame K)) (kSt : KnG P w K mg base (L2.CX P w) 9 (He.ga K "_law_step") ["_law_box_here", "_law_plate", "_law_roll", "_law_state", "_law_ring"] (spStep K)) (kW : KnG P w K mg base (L2.CX P w) 8 (He.ga K "_law_wrong_right") ["_law_box_here", "_law_roll", "_law_state"] (spWR K))
    (kL : KnLog P w K mg base) (kDi : Kn P w K mg base (L2.CX P w) 1 (mD K "__init__") ["self", "size"] (spDiskI K)) (kM : Kn P w K mg base (L2.CX P w) 1 (mL K "many") ["self"] (spMany K)) (kSf : Kn P w K mg base (L2.CX P w) 1 (mL K "safe") ["self"] (spSafe K)) (kN : Kn P w K mg base (L2.CX P w) 1 (mL K "next_block") ["self"] (spNextB K)) (kR : Kn P w K mg base (L2.CX P w) 3 (mL K "records") ["self", "number"] (spRecords K)) (kRd : Kn P w K mg base (L2.CX P w) 2 (mD K "read") ["self", "place"] (spRead K))
    (F : FnP K "_law_right" "_law_right" sRight f fd) : FnG P w K mg base (L2.CX P w) 10 f fd ["_law_box_here"] (spRight K) := by
  have sc := scRight
  obtain ⟨_, G__law_take, b__law_take, k__law_take⟩ := kT
  obtain ⟨_, G__law_same, b__law_same, k__law_same⟩ := kS
  obtain ⟨_, G__law_step, b__law_step, k__law_step⟩ := kSt
  obtain ⟨_, G__law_wrong_right, b__law_wrong_right, k__law_wrong_right⟩ := kW
  obtain ⟨_, G_Log, _, ⟨_, d_Log, b_Log⟩⟩ := kL
  obtain ⟨_, G_Disk, b_Disk, _⟩ := kDi
  obtain ⟨_, G_L_many, b_L_many, _⟩ := kM
  obtain ⟨_, G_L_safe, b_L_safe, _⟩ := kSf
  obtain ⟨_, G_L_next_block, b_L_next_block, _⟩ := kN
  obtain ⟨_, G_L_records, b_L_records, _⟩ := kR
  obtain ⟨_, G_D_read, b_D_read, _⟩ := kRd
  refine okG F sc (fun vs H Q E h => ?_) (fun cdv A outer ss H vs Q E hgd hr h => ?_)
  · obtain ⟨_, _, rfl, _⟩ := h
    rfl
  · obtain ⟨bx, m, rfl, hb, hm, q⟩ := h
    have hu : (A.deeper (envOfC "_law_right" (defScope sRight) ss.heap.objs.size f cdv)).units + 64 < cLine := by have := hr.un; omega
    refine ⟨_, PSs.nox (pss_cons (ps_set (i := 1) sc.nd rfl (Or.inl rfl) (pe_op op_add pe_int (pe_call G__law_take (hr.mono (by decide)) rfl (T.gw "_law_take" (by decide +kernel)) k__law_take b__law_take .nil passL (pa_cons (pv 0) (pa_cons pe_int pa_nil)))))
  (pss_cons (ps_set (i := 2) sc.nd rfl (Or.inl rfl) (pe_make T.mkD G_Disk (hr.mono (by decide)) (by rfl) (T.gl "Disk" (by decide +kernel)) b_Disk .nil passL (pa_cons (pe_op op_add (pv 1) pe_int) pa_nil)))
  (pss_cons (ps_par (i := 4) (j := 5) (by rfl) sc.nd rfl rfl (by decide) rfl rfl (pa_cons (pe_make T.mkL G_Log (hr.mono (by decide)) (by rfl) (T.gl "Log" (by decide +kernel)) b_Log d_Log passL (pa_cons (pv 2) (pa_cons pe_int (pa_cons (pv 1) pa_nil)))) (pa_cons (pe_lst (pa_cons (pe_lst pa_nil) (pa_cons pe_int (pa_cons pe_int (pa_cons pe_int (pa_cons pe_int (pa_cons (pe_lst (pa_cons (pe_tup (pa_cons pe_int (pa_cons pe_int (pa_cons pe_int pa_nil)))) pa_nil)) (pa_cons (pe_tup (pa_cons pe_int (pa_cons pe_int (pa_cons pe_int pa_nil)))) pa_nil)))))))) pa_nil)) (by rfl))
  (pss_cons (ps_for PassesOwn.never rfl (pi_range1 (by rfl) (T.fr "range" (by decide +kernel)) (pa_cons pe_int pa_nil)) (pg_name (i := 3) sc.nd rfl (Or.inl rfl))
  (pss_cons (ps_set (i := 6) sc.nd rfl (Or.inl rfl) (pe_callG G__law_step hgd (hr.mono (by decide)) rfl (T.gw "_law_step" (by decide +kernel)) k__law_step b__law_step .nil passL (pa_cons (pv 0) (pa_cons (pv 2) (pa_cons (pv 4) (pa_cons (pv 5) (pa_cons (pv 1) pa_nil)))))))
  (pss_cons (ps_if (pt_cmp (pc_isN (pv 6)))
  (pss_one (ps_ret pe_bl))
  pss_nil)
  (pss_cons (ps_asg (pv 6) (pg_tup rfl (pgs_cons (pg_name (i := 4) sc.nd rfl (Or.inl rfl)) (pgs_cons (pg_name (i := 5) sc.nd rfl (Or.inl rfl)) pgs_nil))))
  (pss_cons (ps_set (i := 7) sc.nd rfl (Or.inl rfl) (pe_lst (pa_cons (pe_meth0 (pv 4) T.clL (T.meL "many" (by decide +kernel)) G_L_many (hr.mono (by decide)) b_L_many .nil passL) (pa_cons (pe_meth0 (pv 4) T.clL (T.meL "safe" (by decide +kernel)) G_L_safe (hr.mono (by decide)) b_L_safe .nil passL) (pa_cons (pe_meth0 (pv 4) T.clL (T.meL "next_block" (by decide +kernel)) G_L_next_block (hr.mono (by decide)) b_L_next_block .nil passL) (pa_cons (pe_meth (pv 4) T.clL (T.meL "records" (by decide +kernel)) G_L_records (hr.mono (by decide)) b_L_records .nil passL (pa_cons (pe_ix ix_list (pv 5) pe_int (fun _ _ => rfl)) pa_nil)) pa_nil))))))
  (pss_cons (ps_if (pt_not (pt_val (pe_callG G__law_same hgd (hr.mono (by decide)) rfl (T.gw "_law_same" (by decide +kernel)) k__law_same b__law_same .nil passL (pa_cons (pv 7) (pa_cons (pe_lst (pa_cons (pe_op op_add (pe_ix ix_list (pv 5) pe_int (fun _ _ => rfl)) (pe_callB call_len (by rfl) (T.fr "len" (by decide +kernel)) (by decide +kernel) (pa_cons (pe_ix ix_list (pv 5) pe_int (fun _ _ => rfl)) pa_nil))) (pa_cons (pe_ix ix_list (pv 5) pe_int (fun _ _ => rfl)) (pa_cons (pe_ix ix_list (pv 5) pe_int (fun _ _ => rfl)) (pa_cons (pe_ix ix_list (pv 5) pe_int (fun _ _ => rfl)) pa_nil))))) pa_nil)))))
  (pss_one (ps_ret pe_bl))
  pss_nil)
  (pss_one (ps_if (PW.pt (pw_and (pt_cmpR op_eq (pe_op op_modN (pv 3) pe_int) pe_int (nomark _)) (pw_and1 (pt_not (pt_val (pe_callG G__law_wrong_right hgd (hr.mono (by decide)) rfl (T.gw "_law_wrong_right" (by decide +kernel)) k__law_wrong_right b__law_wrong_right .nil passL (pa_cons (pv 0) (pa_cons (pv 4) (pa_cons (pv 5) pa_nil)))))))))
  (pss_one (ps_ret pe_bl))
  pss_nil))))))))
  (pss_one (ps_ret (pe_chain3 (op_eqD hu) (op_eqD hu) (op_eqD hu) (pe_meth (pv 2) T.clD (T.meD "read" (by decide +kernel)) G_D_read (hr.mono (by decide)) b_D_read .nil passL (pa_cons pe_int pa_nil)) (pe_meth (pv 2) T.clD (T.meD "read" (by decide +kernel)) G_D_read (hr.mono (by decide)) b_D_read .nil passL (pa_cons pe_int pa_nil)) (pe_meth (pv 2) T.clD (T.meD "read" (by decide +kernel)) G_D_read (hr.mono (by decide)) b_D_read .nil passL (pa_cons (pe_op op_add (pv 1) pe_int) pa_nil)) (pe_tup pa_nil)))))))), ?_⟩
    refine ⟨_, rfl, bx, m, 4, rfl, hb, by decide, by decide, by omega, fun H1 r hr1 hb1 k1 => ⟨_, _, rfl, rfl, ?_⟩⟩
    obtain ⟨c, hc⟩ : ∃ c : Nat, c = 3 + r := ⟨_, rfl⟩
    refine gn_eq (v' := .int (c : Int)) (by show V.int (3 + (r : Int)) = _; rw [show (3 : Int) + (r : Int) = (c : Int) by omega]) ?_
    refine ⟨_, rfl, _, _, rfl, rfl, ?_⟩
    intro d dx hd hdx hne
    have s1 : Same H1 (upd (upd H1 dx (.own d)) d (.ins (CD K) dx [])) := (sameNew hdx).trans (sameNew (by rw [upd_ne (Ne.symm hne)]; exact hd))
    refine ⟨d, dx, c + 3, rfl, upd_same, by omega, fun H2 k sh lo fk fsh flo D2 kp2 => ⟨rfl, ?_⟩⟩
    have s2 : Same H1 H2 := fun b o e => kp2.keep b o (s1 _ _ e) (by simpa using ne_of_none e hd)
    refine ⟨_, rfl, _, rfl, ?_⟩
    intro g gx hg hgx hgne
    have s3 : Same H2 (upd (upd H2 gx (.own g)) g (.ins (CL K) gx [])) := (sameNew hgx).trans (sameNew (by rw [upd_ne (Ne.symm hgne)]; exact hg))
    refine ⟨g, d, gx, c, 0, 0, 0, k, sh, lo, _, _, [], .non, [], 0, 0, 0, rfl, upd_same, D2.same s3, by omega, by omega, by rw [List.length_replicate], ?_, .nil, ?_, by show 0 ≤ 1000; omega, fun H3 lr rv E1 hE hf hlr L3 D3 hl3 hR3 kp3 => ⟨rfl, ?_⟩⟩
    · intro p hp
      have := List.eq_of_mem_replicate hp
      cases this
    · intro p hp
      rw [rep_at] at hp; cases hp
    have s23 : Same H2 H3 := fun b o e => kp3.keep b o (s3 _ _ e) (by simpa using ne_of_none e hg)
    refine ⟨Nat.zero_le _, fun ln hln => ⟨(by show 3 ≤ sizeLine; decide), fun t1 ht1 => ⟨(by show 1 ≤ sizeLine; decide), fun mk hmk => ⟨(by show 3 ≤ sizeLine; decide), fun ct hct => ⟨(by show 7 ≤ sizeLine; decide), fun s hs => ⟨_, _, rfl, ?_⟩⟩⟩⟩⟩⟩
    have u1 := sameNew (o := .lst []) hln
    have u2 := sameNew (o := .tup [.int 0, .int 0, .int 0]) ht1
    have u3 := sameNew (o := .lst [.ref t1]) hmk
    have u4 := sameNew (o := .tup [.int 0, .int 0, .int 0]) hct
    have u5 := sameNew (o := .lst [.ref ln, .int 0, .int 0, .int 0, .int 0, .ref mk, .ref ct]) hs
    have u12 := u1.trans u2
    have u13 := u12.trans u3
    have u14 := u13.trans u4
    have u15 := u14.trans u5
    have s15 := s2.trans (s23.trans u15)
    obtain ⟨xb, yb, zb, hbx, hbb, hbm⟩ := hb1
    have n1 : ∀ x, H1 x = none → H x = none := fun x hx => k1.free hx (by
      have : x ≠ bx := fun z => by rw [z, hbx] at hx; cases hx
      simpa using this)
    have n2 : ∀ x, H2 x = none → H x = none := fun x hx => n1 x (s2.free hx)
    obtain ⟨_, hk2, _⟩ := D2.hk
    obtain ⟨_, hsh2, _⟩ := D2.hs
    obtain ⟨_, hlo2, _⟩ := D2.hl
    obtain ⟨dx2, wr2, hd2⟩ := D2.ins
    have sd1 : Same H1 (upd H1 dx (.own d)) := sameNew hdx
    have f1 : ∀ x, (upd (upd H1 dx (.own d)) d (.ins (CD K) dx [])) x = none → H1 x = none := fun x hx => s1.free hx
    have nlr2 : H2 lr = none := s3.free hlr
    have hk3 := s23 _ _ hk2
    have hsh3 := s23 _ _ hsh2
    have hlo3 := s23 _ _ hlo2
    have apn : ∀ x, H3 x = none → x ∉ [k, sh, lo, lr] := fun x hx => by
      simp only [List.mem_cons, List.not_mem_nil, or_false, not_or]
      exact ⟨fun z => (by rw [z, hk3] at hx; cases hx), fun z => (by rw [z, hsh3] at hx; cases hx), fun z => (by rw [z, hlo3] at hx; cases hx), fun z => (by rw [z, hl3] at hx; cases hx)⟩
    have fmk := u12.free hmk
    have fs := u14.free hs
    have hbx3 := s23 _ _ (s2 _ _ hbx)
    have hbx1' : (upd (upd H1 dx (.own d)) d (.ins (CD K) dx [])) bx = _ := s1 _ _ hbx
    have a0 : All K H (upd (upd (upd (upd (upd H3 ln (.lst [])) t1 (.tup [.int 0, .int 0, .int 0])) mk (.lst [.ref t1])) ct (.tup [.int 0, .int 0, .int 0])) s (.lst [.ref ln, .int 0, .int 0, .int 0, .int 0, .ref mk, .ref ct])) bx s ln mk g d k sh lo lr (List.replicate (c + 3) none) c E1 (RM.start (0, 0, 0) : Ls) 0 (m + 1) := by
      refine ⟨⟨xb, yb, zb, s15 _ _ hbx, hbb, hbm⟩, ⟨L3.same u15, D3.same u15, ⟨rv, u15 _ _ hl3, hR3.kp (Kp.same (fp := []) u15)⟩, ⟨fun z => ?_, fun z => ?_, fun z => ?_, fun z => ?_⟩, good_first (by omega) (by rw [List.length_replicate]) (fun b => rep_at _ _ _), by omega, by omega, ?_, rep_getD _ _, rep_getD _ _, rep_getD _ _, (fun r hr => by cases hr), Nat.le_refl _, Nat.zero_le _, by omega, by show 1 ≤ 0 + 2; omega⟩,
        ⟨⟨ct, upd_same, ct, rfl, at_new hs upd_same⟩, ⟨[], at_new hs (at_new hct (at_new hmk (at_new ht1 upd_same))), .nil⟩, ⟨_, at_new hs (at_new hct upd_same), .cons ⟨t1, rfl, at_new hs (at_new hct (at_new hmk upd_same))⟩ .nil⟩⟩, ?_, ?_, ⟨fun b o e n => s15 _ _ (k1.keep b o e (by simpa using n)), ?_⟩⟩
      · rw [z, hd2] at hg; cases hg
      · rw [z, hk2] at nlr2; cases nlr2
      · rw [z, hsh2] at nlr2; cases nlr2
      · rw [z, hlo2] at nlr2; cases nlr2
      · intro p hp
        have := List.eq_of_mem_replicate hp
        cases this
      · intro x hx
        simp only [List.mem_cons, List.not_mem_nil, or_false] at hx
        rcases hx with rfl | rfl | rfl | rfl
        · exact apn _ fs
        · exact apn _ hln
        · exact apn _ fmk
        · simp only [List.mem_cons, List.not_mem_nil, or_false, not_or]
          have nn : ∀ y, (upd (upd H1 dx (.own d)) d (.ins (CD K) dx [])) y = none → x ≠ y := fun y hy z => by rw [← z, hbx1'] at hy; cases hy
          exact ⟨nn _ fk, nn _ fsh, nn _ flo, fun z => by rw [← z, s2 _ _ hbx] at nlr2; cases nlr2⟩
      · simp only [List.mem_cons, List.not_mem_nil, or_false, not_or]
        exact ⟨fun z => (by rw [← z, hbx3] at fs; cases fs), fun z => (by rw [← z, hbx3] at hln; cases hln), fun z => (by rw [← z, hbx3] at fmk; cases fmk)⟩
      · intro x hx
        simp only [List.mem_cons, List.not_mem_nil, or_false] at hx
        rcases hx with rfl | rfl | rfl | rfl | rfl | rfl
        · exact n2 _ hg
        · exact n1 _ hd
        · exact n1 _ (f1 _ fk)
        · exact n1 _ (f1 _ fsh)
        · exact n1 _ (f1 _ flo)
        · exact n2 _ nlr2
    refine ⟨40, rfl, by decide, by decide, for_range (lo := 0) (n := (40 : Int).toNat) (fun i σ H' => ∃ (g s ln mk k sh lo lr : Addr) (S : Pl) (E : Nat) (st : Ls) (v3 v6 v7 : Option V), σ = [some (.ref bx), some (.int c), some (.ref d), v3, some (.ref g), some (.ref s), v6, v7] ∧ All K H H' bx s ln mk g d k sh lo lr S c E st i (m + 1 + 201 * i)) ⟨g, s, ln, mk, k, sh, lo, lr, _, E1, _, none, none, none, rfl, a0⟩ ?_ ?_⟩
    · clear a0 s15 u15 u14 u13 u12 u5 u4 u3 u2 u1
      rintro i σ H' hi ⟨g, s, ln, mk, k, sh, lo, lr, S, E2, st, v3, v6, v7, rfl, a⟩
      have hi : i < 40 := by simpa using hi
      refine ⟨_, rfl, _, rfl, _, rfl, _, rfl, _, rfl, ?_⟩
      refine ⟨H, bx, s, ln, mk, g, d, k, sh, lo, lr, S, c, E2, i, m + 1 + 201 * i, st, rfl, a, hi, by omega, fun H5 p g2 s2' ln2 mk2 k2 sh2 lo2 lr2 S2 E3 st2 hp a2 => ?_⟩
      refine ⟨_, rfl, _, rfl, iteF ?_⟩
      refine ⟨_, rfl, p, _, rfl, SqT.of hp, rfl, _, _, rfl, _, _, rfl, rfl, ?_⟩
      refine st_eq (σ' := [some (.ref bx), some (.int c), some (.ref d), some (.int (0 + (i : Int))), some (.ref g2), some (.ref s2'), some (.ref p), v7]) rfl ?_
      obtain ⟨ct2, hs5, hct5⟩ := a2.Z.hs
      obtain ⟨lv, hln5, hlR⟩ := a2.Z.hl
      obtain ⟨rv5, hrv5, hrR⟩ := a2.W.hr
      have e1 := pr_len hlR
      have e2 := pr_len hrR
      obtain ⟨ht5, gx5, hg5⟩ := a2.W.L
      have i0 : atI [V.ref ln2, .int st2.beg, .int st2.needed, .int st2.next, .int st2.safe, .ref mk2, .ref ct2] 0 = some (.ref ln2) := atI_nat (j := 0) rfl
      have i1 : atI [V.ref ln2, .int st2.beg, .int st2.needed, .int st2.next, .int st2.safe, .ref mk2, .ref ct2] 1 = some (.int st2.beg) := atI_nat (j := 1) rfl
      have i3 : atI [V.ref ln2, .int st2.beg, .int st2.needed, .int st2.next, .int st2.safe, .ref mk2, .ref ct2] 3 = some (.int st2.next) := atI_nat (j := 3) rfl
      have i4 : atI [V.ref ln2, .int st2.beg, .int st2.needed, .int st2.next, .int st2.safe, .ref mk2, .ref ct2] 4 = some (.int st2.safe) := atI_nat (j := 4) rfl
      refine ⟨_, rfl, g2, gx5, _, rfl, hg5, lg_meth ht5 _ (by decide +kernel), ?_⟩
      refine ⟨g2, d, c, _, _, _, lr2, _, rv5, rfl, ⟨ht5, gx5, hg5⟩, hrv5, ?_⟩
      refine ⟨_, rfl, g2, gx5, _, rfl, hg5, lg_meth ht5 _ (by decide +kernel), ?_⟩
      refine ⟨g2, d, c, _, _, _, lr2, _, _, rfl, ⟨ht5, gx5, hg5⟩, ?_⟩
      refine ⟨_, rfl, g2, gx5, _, rfl, hg5, lg_meth ht5 _ (by decide +kernel), ?_⟩
      refine ⟨g2, d, c, _, _, _, lr2, _, rfl, ⟨ht5, gx5, hg5⟩, ?_⟩
      refine ⟨_, rfl, g2, gx5, _, rfl, hg5, lg_meth ht5 _ (by decide +kernel), _, rfl, _, _, _, _, rfl, rfl, SqL.of hs5, i1, ?_⟩
      refine ⟨g2, d, c, _, _, st2.beg, lr2, _, rv5, _, rfl, ⟨ht5, gx5, hg5⟩, hrv5, .inl ⟨st2.beg, rfl, Nat.le_refl _, Nat.le_add_right _ _, fun H6 l6 hl6 hl6' s6 => ⟨(by show 4 ≤ sizeLine; decide), fun q7 hq7 => ?_⟩⟩⟩
      rw [Nat.sub_self, List.drop_zero] at hl6'
      have s7 := sameNew (o := .lst [.int ((st2.beg : Int) + rv5.length), .int st2.safe, .int st2.next, .ref l6]) hq7
      have s57 := s6.trans s7
      have hs7 := s57 _ _ hs5
      refine ⟨_, rfl, _, rfl, _, _, _, _, rfl, rfl, SqL.of hs7, i1, _, rfl, _, _, _, _, rfl, rfl, SqL.of hs7, i0, _, _, rfl, .inl ⟨_, SqL.of (s57 _ _ hln5), rfl⟩, _, _, rfl, rfl, _, rfl, _, _, _, _, rfl, rfl, SqL.of hs7, i4, _, rfl, _, _, _, _, rfl, rfl, SqL.of hs7, i3, _, rfl, _, _, _, _, rfl, rfl, SqL.of hs7, i0, (by show 4 ≤ sizeLine; decide), fun q8 hq8 => ?_⟩
      have s8 := sameNew (o := .lst [.int ((st2.beg : Int) + lv.length), .int st2.safe, .int st2.next, .ref ln2]) hq8
      have s58 := s57.trans s8
      have a8 := a2.same s58
      have hb2 := a2.W.b1
      have hn2 := a2.W.n1
      have ht2 := a2.W.t1
      have hg8 := a2.W.good.b2
      refine ⟨q7, q8, .list [.int ((st2.beg : Int) + rv5.length), .int st2.safe, .int st2.next, datL st2.line], rfl, .lst (SqL.of (s8 _ _ upd_same)) (.cons (.int _) (.cons (.int _) (.cons (.int _) (.cons (dp_list (s8 _ _ (s7 _ _ hl6')) (hrR.kp (Kp.same (fp := []) s58)) a2.W.recs) .nil)))), .lst (SqL.of upd_same) (.cons (by rw [show lv.length = rv5.length by omega]; exact .int _) (.cons (.int _) (.cons (.int _) (.cons (dp_list (s58 _ _ hln5) (hlR.kp (Kp.same (fp := []) s58)) a2.W.recs) .nil)))), ?_, ?_⟩
      · refine (Fi.list (n := 5) (B := 60000) fun e he => ?_).mono (by decide) (by show 2 + 4 * 60002 ≤ 1000000; decide)
        simp only [List.mem_cons, List.not_mem_nil, or_false] at he
        rcases he with rfl | rfl | rfl | rfl
        · exact fi_int (small_z (by omega) (by omega))
        · exact fi_int (small_int (by omega))
        · exact fi_int (small_int (by omega))
        · exact (fi_recs a2.W.recs (by omega)).mono (by decide) (by decide)
      refine ⟨_, rfl, iteF ?_⟩
      refine ⟨_, rfl, _, _, rfl, rfl, (show (8 : Int) ≠ 0 by decide), rfl, _, rfl, ?_⟩
      by_cases h7 : (V.int ((0 + (i : Int)).fmod 8)) = V.int 7
      · refine ifT (decide_eq_true h7) ?_
        refine ⟨_, rfl, _, rfl, _, rfl, ?_⟩
        refine ⟨H, bx, s2', ln2, mk2, g2, d, k2, sh2, lo2, lr2, S2, c, E3, i + 1, m + 1 + 201 * i + 200, st2, rfl, a8, by omega, fun H9 a9 k9 => ?_⟩
        refine ⟨_, rfl, iteF ⟨g2, s2', ln2, mk2, k2, sh2, lo2, lr2, S2, E3, st2, _, _, _, rfl, ?_⟩⟩
        exact a9.mono (by omega)
      · refine ifF (decide_eq_false h7) ⟨g2, s2', ln2, mk2, k2, sh2, lo2, lr2, S2, E3, st2, _, _, _, rfl, ?_⟩
        exact a8.mono (by omega)
    · rintro σ H' ⟨g, s, ln, mk, k, sh, lo, lr, S, E2, st, v3, v6, v7, rfl, a⟩
      have D := a.W.D
      have hSl := a.W.good.len
      obtain ⟨dx9, wr9, hd9⟩ := D.ins
      refine ⟨_, rfl, d, dx9, _, rfl, hd9, dk_meth _ (by decide +kernel), ?_⟩
      unfold tCons tC tNil
      refine read0 (E := E0) (j := 0) D (by omega) a.W.e0 fun w1 hw1 => ?_
      refine ⟨_, rfl, d, dx9, _, rfl, hd9, dk_meth _ (by decide +kernel), ?_⟩
      refine read0 (E := E0) (j := 1) D (by omega) a.W.e1 fun w2 hw2 => ?_
      obtain ⟨t1, rfl, ht1⟩ := hw1
      obtain ⟨t2, rfl, ht2⟩ := hw2
      refine ⟨.tuple [], .tuple [], .tup (SqT.of ht1) .nil, .tup (SqT.of ht2) .nil, by decide +kernel, by decide +kernel, true, rfl, iteT ?_⟩
      refine ⟨_, rfl, d, dx9, _, rfl, hd9, dk_meth _ (by decide +kernel), _, rfl, _, _, rfl, rfl, ?_⟩
      refine read0 (E := E0) (j := c + 2) D (by omega) a.W.e2 fun w3 hw3 => ?_
      obtain ⟨t3, rfl, ht3⟩ := hw3
      refine ⟨.tuple [], .tuple [], .tup (SqT.of ht2) .nil, .tup (SqT.of ht3) .nil, by decide +kernel, by decide +kernel, true, rfl, iteT ?_⟩
      refine ⟨Nat.zero_le _, fun t4 ht4 => ?_⟩
      refine ⟨.tuple [], .tuple [], .tup (SqT.of (at_new ht4 ht3)) .nil, .tup (SqT.of upd_same) .nil, by decide +kernel, by decide +kernel, ?_⟩
      have s4 := sameNew (o := .tup []) ht4
      refine q _ ((a.same s4).B.mono (by show m + 1 + 201 * 40 ≤ _; omega)) ⟨fun b o e n => (a.same s4).fr.keep b o e (by simpa using n), fun b xs e => (a.same s4).fr.keep b _ e fun z => ?_⟩
      obtain ⟨_, _, _, hb0, _⟩ := hb
      rw [z, hb0] at e; cases e
end
end K51
end L2
set_option Elab.async false
set_option linter.all false
set_option maxRecDepth 100000
set_option maxHeartbeats 4000000
/-! KE12: _law_cells, _law_box, law. -/
namespace L2
open PySem PySem.Spec PyProof.Rows
namespace K51
theorem cut_take (xs : List V) (j : Nat) : cutV xs none (some (j : Int)) = xs.take j := by
  unfold cutV
  rw [HT.sIx_nat, HT.sIx_none]
  simp only [List.drop_zero, Nat.sub_zero]
  by_cases h : j ≤ xs.length
  · rw [Nat.min_eq_left h]
  · rw [Nat.min_eq_right (by omega), List.take_length, List.take_of_length_le (by omega)]
theorem cut_mid (xs : List V) (h : xs.length ≤ 63) : cutV xs (some 3) (some 63) = xs.drop 3 := by
  unfold cutV
  rw [show (3 : Int) = ((3 : Nat) : Int) from rfl, show (63 : Int) = ((63 : Nat) : Int) from rfl, HT.sIx_nat, HT.sIx_nat, Nat.min_eq_right h, List.take_of_length_le (by rw [List.length_drop]; omega)]
  by_cases h3 : 3 ≤ xs.length
  · rw [Nat.min_eq_left h3]
  · rw [Nat.min_eq_right (by omega), List.drop_length, List.drop_eq_nil_of_le (by omega)]
theorem bit_small : ∀ b : Bool, -(2 ^ 64) < (if b = true then (1 : Int) else 0) ∧ (if b = true then (1 : Int) else 0) < 2 ^ 64
  | true => by decide
  | false => by decide
section
variable {P : Program} {w : World} {K : PySem.W.Frag} {mg : Str → Option Value} {base : Heap} {f : Addr} {fd : FuncData}
abbrev sCells : Stmt := topS 22
def spCells (K : PySem.W.Frag) : Sp := fun vs H Q _ => ∃ (l : Addr) (ns : List Int), vs = [.ref l, .int 3] ∧ SqL K H l (ns.map V.int) ∧ ns.length ≤ 63 ∧ ∀ (H' : Hp) (p : Addr) (cs : List Int), H' p = some (.lst (cs.map V.int)) → cs.length ≤ 3 → Same H H' → Q (.ref p) H'
theorem scCells : FnScope ["_law_script", "_law_most", "_law_cells_here", "_law_k", "_law_cell"] ["_law_script", "_law_most"] (defScope sCells) := ⟨rfl, rfl, rfl, by decide +kernel, rfl, by decide +kernel, by decide +kernel⟩
theorem ok_cells (T : Tx K mg) (F : FnP K "_law_cells" "_law_cells" sCells f fd) : FnOk P w K mg base (L2.CX P w) 1 f fd ["_law_script", "_law_most"] (spCells K) := by
  have sc := scCells
  refine F.ok sc (fun vs H Q E h => ?_) (fun cdv A outer ss H vs Q E hr h => ?_)
  · obtain ⟨_, _, rfl, _⟩ := h
    rfl
  · obtain ⟨l, ns, rfl, hl, hn, q⟩ := h
    -- behind the first row
    obtain ⟨t1, ht1, hr1⟩ : ∃ t1 : TS, PSs (cxOf (L2.CX P w) P w K mg base ["_law_script", "_law_most", "_law_cells_here", "_law_k", "_law_cell"] "_law_cells" (defScope sCells) f cdv A outer ss H E).nox ((defBody sCells).drop 1) t1 ∧
        (∀ (H1 : Hp) (p : Addr) (cs : List Int), Same H H1 → H1 p = some (.lst (cs.map V.int)) → H p = none → cs.length ≤ 3 → (3 < ns.length → cs.length = 3) → t1 { nx := fun _ H' => Q .non H', rt := Q } [some (.ref l), some (.int 3), some (.ref p), none, none] H1) := by
      refine ⟨_, (pss_cons (ps_for PassesOwn.never rfl (pi_enum (by rfl) (T.fr "enumerate" (by decide +kernel)) (pa_cons (pe_slice sl_list (pv 0) (po_some (pv 1)) (po_some pe_int)) pa_nil)) (pg_tup rfl (pgs_cons (pg_name (i := 3) sc.nd rfl (Or.inl rfl)) (pgs_cons (pg_name (i := 4) sc.nd rfl (Or.inl rfl)) pgs_nil)))
  (pss_one (ps_asg (pe_op op_add (pe_ix ix_list (pv 2) (pe_op op_modN (pv 3) (pv 1)) (fun _ _ => rfl)) (pe_op op_mul (pv 4) (pe_op op_add (pv 3) pe_int))) (pg_sub (pv 2) (pe_op op_modN (pv 3) (pv 1)) set_list))))
  (pss_one (ps_ret (pv 2)))), ?_⟩
      intro H1 p cs s1 hp hp0 hc3 hc
      refine ⟨_, rfl, _, rfl, _, rfl, _, rfl, l, _, rfl, s1.seq hl, fun p2 hp2 => ?_⟩
      rw [cut_mid _ (by rw [List.length_map]; exact hn)]
      have s2 := sameNew (o := .lst ((ns.map V.int).drop 3)) hp2
      have np2 : p ≠ p2 := ne_of_none hp hp2
      refine ⟨p2, _, rfl, SqL.of upd_same, for_it (walk_enum (xs := (ns.map V.int).drop 3)) (fun i σ H' => ∃ (cs : List Int) (v3 v4 : Option V), σ = [some (.ref l), some (.int 3), some (.ref p), v3, v4] ∧ H' p = some (.lst (cs.map V.int)) ∧ cs.length ≤ 3 ∧ (3 < ns.length → cs.length = 3) ∧ Same H H' ∧ H' p2 = some (.lst ((ns.map V.int).drop 3)))
        ⟨cs, none, none, rfl, s2 _ _ hp, hc3, hc, s1.trans s2, upd_same⟩ (fun i σ H' _ ⟨_, _, _, _, _, _, _, _, h⟩ => SqL.of h) ?_ ?_⟩
      · rintro i x σ H2 H2' hi ⟨cs, v3, v4, rfl, h1, h2, h3, h4, h5⟩ ⟨T2, x1, y1, rfl, hT2, rfl, ex, ey⟩
        rw [List.length_drop, List.length_map] at hi
        have hc3 := h3 (by omega)
        cases ex
        obtain ⟨z, rfl⟩ : ∃ z : Int, y1 = .int z := by
          have ey : ((ns.map V.int).drop 3)[i]? = some y1 := ey
          rw [List.getElem?_drop, List.getElem?_map] at ey
          cases e : ns[3 + i]? with
          | none => rw [e] at ey; cases ey
          | some z => rw [e] at ey; exact ⟨z, (Option.some.inj ey).symm⟩
        have em : ((i : Int).fmod (3 : Int)) = ((i % 3 : Nat) : Int) := by
          rw [Int.fmod_eq_emod_of_nonneg _ (by decide)]; rfl
        have hm := Nat.mod_lt i (show 0 < 3 by decide)
        have npT : p ≠ T2 := ne_of_none h1 hT2
        have h1' := at_new (x := .tup [.int (i : Int), .int z]) hT2 h1
        have eg : (cs.map V.int)[i % 3]? = some (.int (cs[i % 3]'(by omega))) := by rw [List.getElem?_map, List.getElem?_eq_getElem (by omega)]; rfl
        refine ⟨T2, _, rfl, SqT.of upd_same, rfl, _, _, rfl, _, _, rfl, rfl, ?_⟩
        refine ⟨_, rfl, _, rfl, _, rfl, _, _, rfl, rfl, (show (3 : Int) ≠ 0 by decide), p, _, _, _, rfl, rfl, SqL.of h1', (show atI (cs.map V.int) ((i : Int).fmod 3) = some (.int (cs[i % 3]'(by omega))) by rw [em]; exact atI_nat eg), ?_⟩
        refine ⟨_, rfl, _, rfl, _, _, rfl, rfl, _, _, rfl, rfl, .inr ⟨by omega, by omega⟩, _, _, rfl, rfl, ?_⟩
        refine ⟨_, rfl, _, rfl, _, rfl, _, _, rfl, rfl, (show (3 : Int) ≠ 0 by decide), p, _, _, i % 3, rfl, rfl, h1', (show ixN (cs.map V.int).length ((i : Int).fmod 3) = some (i % 3) by rw [em]; exact ixN_nat (by rw [List.length_map]; omega)), ?_⟩
        have k1 : Kp [p] H2 (upd (upd H2 T2 (.tup [.int (i : Int), .int z])) p (.lst ((cs.map V.int).set (i % 3) (.int ((cs[i % 3]'(by omega)) + z * ((i : Int) + 2)))))) := (Kp.new hT2).trans (Kp.put h1' (fun _ z => by cases z) (by simp))
        refine ⟨cs.set (i % 3) ((cs[i % 3]'(by omega)) + z * ((i : Int) + 2)), _, _, rfl, ?_, by rw [List.length_set]; exact h2, by rw [List.length_set]; exact h3, fun b o e => k1.keep b o (h4 b o e) (by simpa using ne_of_none e hp0), k1.keep _ _ h5 (by simpa using Ne.symm np2)⟩
        rw [upd_same, List.map_set]
      · rintro σ H' ⟨cs, v3, v4, rfl, h1, h2, h3, h4, h5⟩
        exact ⟨_, rfl, q H' p cs h1 h2 h4⟩
    refine ⟨_, PSs.nox (pss_cons (ps_set (i := 2) sc.nd rfl (Or.inl rfl) (pe_orT (pe_callTy call_list_of (by rfl) (T.fr "list" (by decide +kernel)) (by decide +kernel) (pa_cons (pe_slice sl_list (pv 0) po_none (po_some (pv 1))) pa_nil)) (pe_one (pe_lst (pa_cons pe_int pa_nil))))) ht1), ?_⟩
    refine ⟨_, rfl, _, rfl, _, rfl, l, _, rfl, hl, fun p0 hp0 => ?_⟩
    rw [show (3 : Int) = ((3 : Nat) : Int) from rfl, cut_take]
    have s0 := sameNew (o := .lst ((ns.map V.int).take 3)) hp0
    refine ⟨p0, _, rfl, .inl (SqL.of upd_same), fun p1 hp1 => ?_⟩
    have s1 := s0.trans (sameNew (o := .lst ((ns.map V.int).take 3)) hp1)
    refine ⟨_, .inl ⟨_, SqL.of upd_same, rfl⟩, ?_⟩
    cases ns with
    | nil =>
      refine ifF rfl ⟨(by show 1 ≤ sizeLine; decide), fun p2 hp2 => ?_⟩
      exact hr1 _ p2 [0] (s1.trans (sameNew hp2)) upd_same (s1.free hp2) (by decide) (fun h => absurd h (by decide))
    | cons n0 ns0 =>
      refine ifT rfl ?_
      refine hr1 _ p1 ((n0 :: ns0).take 3) s1 (by rw [upd_same, List.map_take]) (s0.free hp1) (by rw [List.length_take]; omega) (fun h => by rw [List.length_take]; omega)
abbrev sBox : Stmt := topS 23
def spBox (K : PySem.W.Frag) : Sp := fun vs H Q _ => ∃ (p : Addr) (cs : List Int) (k : Nat), vs = [.ref p, .int k] ∧ H p = some (.lst (cs.map V.int)) ∧ k < cs.length ∧ ∀ H' b, H b = none → Bx H' b 0 → Same H H' → Q (.ref b) H'
theorem scBox : FnScope ["_law_cells_here", "_law_k", "_law_cell"] ["_law_cells_here", "_law_k"] (defScope sBox) := ⟨rfl, rfl, rfl, by decide +kernel, rfl, by decide +kernel, by decide +kernel⟩
theorem ok_box (T : Tx K mg) (F : FnP K "_law_box" "_law_box" sBox f fd) : FnOk P w K mg base (L2.CX P w) 1 f fd ["_law_cells_here", "_law_k"] (spBox K) := by
  have sc := scBox
  refine F.ok sc (fun vs H Q E h => ?_) (fun cdv A outer ss H vs Q E hr h => ?_)
  · obtain ⟨_, _, _, rfl, _⟩ := h
    rfl
  · obtain ⟨p, cs, k, rfl, hp, hk, q⟩ := h
    refine ⟨_, PSs.nox (pss_cons (ps_set (i := 2) sc.nd rfl (Or.inl rfl) (pe_ix ix_list (pv 0) (pv 1) (fun _ _ => rfl)))
  (pss_one (ps_ret (pe_lst (pa_cons (pe_op op_mul (pe_callB call_abs (by rfl) (T.fr "abs" (by decide +kernel)) (by decide +kernel) (pa_cons (pv 2) pa_nil)) (pe_callTy call_int1 (by rfl) (T.fr "int" (by decide +kernel)) (by decide +kernel) (pa_cons (pe_cmpR op_ge (pe_callB call_abs (by rfl) (T.fr "abs" (by decide +kernel)) (by decide +kernel) (pa_cons (pv 2) pa_nil)) (pe_op op_pow pe_int pe_int) (nomark _)) pa_nil))) (pa_cons (pe_op op_add (pe_op op_add (pe_op op_modN (pv 2) pe_int) (pe_op op_mul pe_int (pv 1))) pe_int) (pa_cons pe_int pa_nil))))))), ?_⟩
    have eg : (cs.map V.int)[k]? = some (.int cs[k]) := by rw [List.getElem?_map, List.getElem?_eq_getElem hk]; rfl
    refine ⟨_, rfl, _, rfl, p, _, _, _, rfl, rfl, SqL.of hp, atI_nat eg, ?_⟩
    refine ⟨_, rfl, _, rfl, _, rfl, _, rfl, _, _, rfl, rfl, ⟨by decide, by decide, by decide⟩, _, _, rfl, rfl, .inr ⟨_, rfl, ?_⟩⟩
    refine ⟨_, _, rfl, rfl, .inr ⟨?_, ?_⟩, ?_⟩
    · exact (bit_small _).1
    · exact (bit_small _).2
    refine ⟨_, rfl, _, _, rfl, rfl, (show (2305843009213693951 : Int) ≠ 0 by decide), _, rfl, _, _, rfl, rfl, .inl ⟨by decide, by decide⟩, _, _, rfl, rfl, _, _, rfl, rfl, (by show 3 ≤ sizeLine; decide), fun b hb => ?_⟩
    exact q _ b hb ⟨_, _, _, upd_same, Int.le_refl _, Int.le_refl _⟩ (sameNew hb)
abbrev sLaw : Stmt := topS 38
def spLaw (K : PySem.W.Frag) : Sp := fun vs H Q _ => ∃ (l : Addr) (ns : List Int), vs = [.ref l] ∧ SqL K H l (ns.map V.int) ∧ ns.length ≤ 63 ∧ ∀ H', Q (.bl true) H'
theorem scLaw : FnScope ["_law_script", "_law_cells_here", "_law_k", "_law_box_here", "_law_turn"] ["_law_script"] (defScope sLaw) := ⟨rfl, rfl, rfl, by decide +kernel, rfl, by decide +kernel, by decide +kernel⟩
theorem ok_law (T : Tx K mg) (kC : Kn P w K mg base (L2.CX P w) 1 (He.ga K "_law_cells") ["_law_script", "_law_most"] (spCells K)) (kB : Kn P w K mg base (L2.CX P w) 1 (He.ga K "_law_box") ["_law_cells_here", "_law_k"] (spBox K)) (kR : KnG P w K mg base (L2.CX P w) 10 (He.ga K "_law_right") ["_law_box_here"] (spRight K))
    (F : FnP K "law" "law" sLaw f fd) : FnG P w K mg base (L2.CX P w) 11 f fd ["_law_script"] (spLaw K) := by
  have sc := scLaw
  obtain ⟨_, G__law_cells, b__law_cells, k__law_cells⟩ := kC
  obtain ⟨_, G__law_box, b__law_box, k__law_box⟩ := kB
  obtain ⟨_, G__law_right, b__law_right, k__law_right⟩ := kR
  refine okG F sc (fun vs H Q E h => ?_) (fun cdv A outer ss H vs Q E hgd hr h => ?_)
  · obtain ⟨_, _, rfl, _⟩ := h
    rfl
  · obtain ⟨l, ns, rfl, hl, hn, q⟩ := h
    refine ⟨_, PSs.nox (pss_cons (ps_set (i := 1) sc.nd rfl (Or.inl rfl) (pe_call G__law_cells (hr.mono (by decide)) rfl (T.gw "_law_cells" (by decide +kernel)) k__law_cells b__law_cells .nil passL (pa_cons (pv 0) (pa_cons pe_int pa_nil))))
  (pss_cons (ps_for PassesOwn.never rfl (pi_range1 (by rfl) (T.fr "range" (by decide +kernel)) (pa_cons (pe_callB call_len (by rfl) (T.fr "len" (by decide +kernel)) (by decide +kernel) (pa_cons (pv 1) pa_nil)) pa_nil)) (pg_name (i := 2) sc.nd rfl (Or.inl rfl))
  (pss_cons (ps_set (i := 3) sc.nd rfl (Or.inr rfl) (pe_call G__law_box (hr.mono (by decide)) rfl (T.gw "_law_box" (by decide +kernel)) k__law_box b__law_box .nil passL (pa_cons (pv 1) (pa_cons (pv 2) pa_nil))))
  (pss_one (ps_if (pt_not (pt_val (pe_callB (cr_all rfl) (by rfl) (T.fr "all" (by decide +kernel)) (by decide +kernel) (pa_cons (pe_lc (own := [("_law_turn", 4)]) (g := gName 4) (tt := tYes) rfl sc.nd (pi_range1 (by rfl) (T.fr "range" (by decide +kernel)) (pa_cons pe_int pa_nil)) (blkOk_by (N := ["_law_script", "_law_cells_here", "_law_k", "_law_box_here", "_law_turn"]) (sc := defScope sLaw) (by decide +kernel)) (fun _ _ _ _ _ => pg_name (i := 4) sc.nd rfl (Or.inl rfl)) (fun _ _ _ _ _ => pts_nil) (fun _ _ _ _ _ => (pe_callG G__law_right hgd (hr.mono (by decide)) rfl (T.gw "_law_right" (by decide +kernel)) k__law_right b__law_right .nil passL (pa_cons (pv 3) pa_nil)))) pa_nil))))
  (pss_one (ps_ret pe_bl))
  pss_nil))))
  (pss_one (ps_ret pe_bl)))), ?_⟩
    refine ⟨_, rfl, l, ns, rfl, hl, hn, fun H1 p cs hp hc3 s1 => ?_⟩
    refine ⟨_, rfl, _, _, rfl, .inl ⟨_, SqL.of hp, rfl⟩, _, rfl, by omega, by rw [List.length_map]; omega, for_range (lo := 0) (n := (((cs.map V.int).length : Nat) : Int).toNat) (fun i σ H' => ∃ v2 v3 v4 : Option V, σ = [some (.ref l), some (.ref p), v2, v3, v4] ∧ Same H1 H') ⟨none, none, none, rfl, Same.refl _⟩ ?_ ?_⟩
    · rintro i σ H2 hi ⟨v2, v3, v4, rfl, s2⟩
      have hi : i < cs.length := by simpa using hi
      have hp2 := s2 _ _ hp
      refine ⟨_, rfl, _, rfl, p, cs, i, by show [V.ref p, V.int (0 + (i : Int))] = _; rw [Int.zero_add], hp2, hi, fun H3 b hb hB s3 => ?_⟩
      refine ⟨2, rfl, by decide, by decide, fun D0 hD0 => ?_⟩
      have nDb : D0 ≠ b := fun z => by
        obtain ⟨_, _, _, e, _⟩ := hB
        rw [z, e] at hD0; cases hD0
      refine lc_range (lo := 0) (n := (2 : Int).toNat) (fun j H' => j ≤ 2 ∧ H' D0 = some (.lst ((List.replicate j true).map V.bl)) ∧ Bx H' b (20000 * j) ∧ Kp [b, D0] H3 H') ⟨Nat.zero_le _, upd_same, hB.kp (Kp.new (fp := []) hD0) (by simp), Kp.new hD0⟩ ?_ ?_
      · rintro j H4 hj ⟨h0, h1, h2, h3⟩
        have hj : j < 2 := by simpa using hj
        refine ⟨rfl, ?_⟩
        refine ⟨_, rfl, b, 20000 * j, rfl, h2, by omega, fun H5 hB5 k5 => ?_⟩
        have h5 := k5.keep _ _ h1 (by simpa using nDb)
        refine ⟨_, h5, by rw [List.length_map, List.length_replicate, sizeLine_eq]; omega, by omega, ?_, (hB5.kp (Kp.put (fp := [D0]) h5 (fun _ z => by cases z) (by simp)) (by simpa using Ne.symm nDb)).mono (by omega), (h3.trans (k5.mono (by simp))).trans (Kp.put h5 (fun _ z => by cases z) (by simp))⟩
        rw [upd_same, List.replicate_succ', List.map_append]; rfl
      · rintro H4 ⟨_, h1, h2, h3⟩
        refine ⟨_, _, rfl, SqL.of h1, true, rfl, iteF ⟨_, _, _, rfl, ?_⟩⟩
        have hD2 : H2 D0 = none := s3.free hD0
        exact s2.trans fun x o e => h3.keep x o (s3 x o e) (by simp [ne_of_none e hb, ne_of_none e hD2])
    · rintro σ H' ⟨v2, v3, v4, rfl, s2⟩
      exact q H'
end
end K51
end L2
set_option Elab.async false
set_option linter.all false
set_option maxRecDepth 100000
set_option maxHeartbeats 4000000
/-! KH1: the head's facts. -/
namespace L2
open PySem PySem.Spec PyProof.Rows
namespace K51
open He (ba eqO eqO_ok)
/-! ### an error's class, as a Bool -/
def oxgB (K : PySem.W.Frag) (C : Addr) (newId : String) (bmB : List Value) : Bool := match K.lookup C with
  | some ⟨.type "type", _, .cls cd, sl⟩ => (match sl.toList with
    | [_, _, _, _, some (.builtin n), _] => decide (cd.mro = .ref C :: bmB) && (decide (n = newId) && (!cd.hasDel && cd.hasDict))
    | _ => false)
  | _ => false
theorem oxg_cls {K : PySem.W.Frag} {C : Addr} {newId : String} {bmB : List Value} (q : oxgB K C newId bmB = true) : ∃ nm q N bs sn sub ab col dd k0 k1 k2 k3 k5, K.lookup C = some (excClassObj nm q C N bs bmB true sn sub ab col dd k0 k1 k2 k3 k5 newId) := by
  unfold oxgB at q
  split at q
  · rename_i dd cd sl ho
    split at q
    · rename_i k0 k1 k2 k3 n k5 hs
      obtain ⟨h1, q⟩ := ba q
      obtain ⟨h2, q⟩ := ba q
      obtain ⟨h3, h4⟩ := ba q
      have h1 := of_decide_eq_true h1
      have h2 := of_decide_eq_true h2
      obtain ⟨nm, bs, mro, ns, qn, hd, sn, sub, ab, col, del⟩ := cd
      simp only [Bool.not_eq_true'] at h1 h3 h4
      subst h1 h2 h3 h4
      have hsl : sl = #[k0, k1, k2, k3, some (.builtin n), k5] := by
        obtain ⟨l⟩ := sl
        simp only at hs
        rw [hs]
      subst hsl
      exact ⟨nm, qn, ns, bs, sn, sub, ab, col, dd, k0, k1, k2, k3, k5, ho⟩
    · cases q
  · cases q
def erB (K : PySem.W.Frag) (C : Addr) (newId : String) (bmB : List Value) : Bool :=
  oxgB K C newId bmB && (eqO (PySem.W.findIn K (.ref C) "__setattr__") (some (some (.builtin "object.__setattr__"))) && (decide (PySem.W.subIn K (.ref C) (.type "BaseException") = some true) && (decide (PySem.W.typeIn K (.ref C) = some (.type "type")) && (PySem.W.keepIn K (.ref C) &&
  (eqO (PySem.W.findIn K (.ref C) "__getattribute__") (some (some (.builtin "BaseException.__getattribute__"))) && (eqO (PySem.W.findIn K (.ref C) "__getattr__") (some none) && (PySem.W.hasDictIn K C && (eqO (PySem.W.findIn K (.ref C) "__class__") (some (some (.builtin "object.__class__"))) &&
  (decide (PySem.W.specialIn K (.builtin "object.__class__") "__get__" = some (some (.builtin "getset_descriptor.__get__"))) && (decide (PySem.W.takesIn K (.builtin "object.__class__") = some true) && (decide (PySem.W.mroIn K C (.type "object") = some true) &&
  (eqO (PySem.W.findIn K (.ref C) "__init__") (some (some (.ref (He.ma K C "__init__")))) && decide (PySem.W.typeIn K (.ref (He.ma K C "__init__")) = some (.type "function"))))))))))))))
theorem erB_ok {K : PySem.W.Frag} {C : Addr} {newId : String} {bmB : List Value} (q : erB K C newId bmB = true) : ErC K C newId bmB := by
  obtain ⟨a1, q⟩ := ba q
  obtain ⟨a2, q⟩ := ba q
  obtain ⟨a3, q⟩ := ba q
  obtain ⟨a4, q⟩ := ba q
  obtain ⟨a5, q⟩ := ba q
  obtain ⟨a6, q⟩ := ba q
  obtain ⟨a7, q⟩ := ba q
  obtain ⟨a8, q⟩ := ba q
  obtain ⟨a9, q⟩ := ba q
  obtain ⟨a10, q⟩ := ba q
  obtain ⟨a11, q⟩ := ba q
  obtain ⟨a12, q⟩ := ba q
  obtain ⟨a13, a14⟩ := ba q
  exact ⟨⟨oxg_cls a1, eqO_ok a2, of_decide_eq_true a3, of_decide_eq_true a4, a5⟩, ⟨eqO_ok a6, eqO_ok a7, of_decide_eq_true a3, a8, eqO_ok a9, of_decide_eq_true a10, of_decide_eq_true a11, of_decide_eq_true a12⟩, ⟨eqO_ok a6, eqO_ok a7, of_decide_eq_true a3, a8⟩, eqO_ok a13, of_decide_eq_true a14⟩
abbrev erN : List Str := ["Full", "Gone", "NoCut", "Stopped"]
abbrev erB3 : List (Str × String) := [("Full", "OverflowError"), ("Gone", "LookupError"), ("NoCut", "ValueError"), ("Stopped", "RuntimeError")]
def exB (K : PySem.W.Frag) : Bool :=
  erB K (He.ga K "Full") "OverflowError.__new__" PySem.OEG.bmO && (erB K (He.ga K "Gone") "LookupError.__new__" PySem.OEG.bmL && (erB K (He.ga K "NoCut") "ValueError.__new__" PySem.OEG.bmV && (erB K (He.ga K "Stopped") "RuntimeError.__new__" PySem.OEG.bmR &&
  (erN.all (fun x => decide (PySem.W.exmAny K (.ref (He.ga K x)) (catN.map fun y => .ref (He.ga K y)) = some true)) &&
  (erN.all (fun x => (["Full", "Gone", "NoCut"] : List Str).all fun y => decide (PySem.W.kitOne K (.ref (He.ga K x)) (.ref (He.ga K y)) = some (decide (x = y)))) &&
  (erB3.all (fun p => (["OverflowError", "LookupError", "ValueError"] : List String).all fun y => decide (PySem.W.kitOne K (.ref (He.ga K p.1)) (.type y) = some (decide (p.2 = y)))) &&
  (erN.all (fun x => decide (PySem.W.kitAny K (.ref (He.ga K x)) [.type "KeyError", .type "IndexError"] = some false)) && decide (catN.map fun y => He.ga K y).Nodup)))))))
/-! ### facts, defs -/
def faC : List He.Fa := [.int "WIDTH" 24, .str "MARK" "log", .int "HEAD" 5, .int "MOST_ATOMS" 8, .cls "Log", .cls "Disk", .mkr "Log", .mkr "Disk", .noat "Full" "count", .noat "Gone" "number", .noat "NoCut" "block", .glo "law"]
def fa1 : List He.Fa := faC ++ (gN.map .glo ++ gL.map .glo)
def fa2 : List He.Fa := fN.map .free ++ (lM.map (.meth "Log") ++ dM.map (.meth "Disk"))
def fa3 : List He.Fa := lF.map (.noat "Log") ++ dF.map (.noat "Disk")
def fa : List He.Fa := fa1 ++ (fa2 ++ fa3)
def gD (x : Str) (st : Stmt) : He.DefD := ⟨(x, none), x, x, defArgs st, defBody st, defScope st, [], []⟩
def mDf (C m q : Str) (st : Stmt) : He.DefD := ⟨(C, some m), m, q, defArgs st, defBody st, defScope st, [], []⟩
def fn1 : List He.DefD := [gD "is_count" sIsCount, gD "records_in" sRecordsIn, gD "part_of" sPartOf, gD "packed" sPacked,
  mDf "Full" "__init__" "Full.__init__" sFullI, mDf "Gone" "__init__" "Gone.__init__" sGoneI, mDf "NoCut" "__init__" "NoCut.__init__" sNoCutI, mDf "Stopped" "__init__" "Stopped.__init__" sStoppedI]
def fn2 : List He.DefD := [mDf "Disk" "look" "Disk.look" sLook, mDf "Disk" "use" "Disk.use" sUse, mDf "Disk" "read" "Disk.read" sRead, mDf "Disk" "write" "Disk.write" sWrite, mDf "Disk" "barrier" "Disk.barrier" sBarrier, mDf "Disk" "loose" "Disk.loose" sLoose, mDf "Disk" "fail_after" "Disk.fail_after" sFail, mDf "Disk" "crash" "Disk.crash" sCrash, mDf "Disk" "__init__" "Disk.__init__" sDiskI]
def fn3 : List He.DefD := [mDf "Log" "many" "Log.many" sMany, mDf "Log" "safe" "Log.safe" sSafe, mDf "Log" "epoch" "Log.epoch" sEpoch, mDf "Log" "next_block" "Log.next_block" sNextB, mDf "Log" "place_of" "Log.place_of" sPlace, mDf "Log" "part_at" "Log.part_at" sPartAt, mDf "Log" "waiting" "Log.waiting" sWaiting, mDf "Log" "parts" "Log.parts" sParts, mDf "Log" "append" "Log.append" sAppend, mDf "Log" "fits" "Log.fits" sFits, mDf "Log" "read_on" "Log.read_on" sReadOn, mDf "Log" "write" "Log.write" sWriteL, mDf "Log" "records" "Log.records" sRecords, mDf "Log" "cut" "Log.cut" sCut, mDf "Log" "flush" "Log.flush" sFlush,
  ⟨("Log", some "__init__"), "__init__", "Log.__init__", defArgs sLogI, defBody sLogI, defScope sLogI, [.int 0, .int 0, .int 0], []⟩]
def fn4 : List He.DefD := [gD "_law_take" sTake, gD "_law_of" sOf, gD "_law_atom" sAtom, gD "_law_same" sSame, gD "_law_some" sSome, gD "_law_record" sRecord, gD "_law_packed" sLPacked, gD "_law_told" sTold, gD "_law_wrong_right" sWR, gD "_law_flushed" sFlushed, gD "_law_cut" sLCut, gD "_law_crashed" sCrashed, gD "_law_step" sStep, gD "_law_right" sRight, gD "_law_cells" sCells, gD "_law_box" sBox, gD "law" sLaw]
def fn : List He.DefD := fn1 ++ (fn2 ++ (fn3 ++ fn4))
/-! ### the Hook -/
abbrev AlB : Type := He.AlD × Bool
def obB (g : Addr → Option Obj) : AlB := (He.obsD fa fn (He.frG g (He.asD g 5)), exB (He.frG g (He.asD g 5)))
def hkB : PySem.W.Hook where
  α := AlB
  obs := fun s => obB s.heap.get?
  val := fun _ => (He.valD fn, true)
  says := fun _ h => ∃ K : PySem.W.Frag, K.In h ∧ He.SaysD fa fn K ∧ exB K = true
  of := fun _ _ e => ⟨_, He.frG_in, congrArg (fun z : AlB => z.1) e, congrArg (fun z : AlB => z.2) e⟩
  keeps := fun _ _ _ ⟨K, hK, c⟩ k => ⟨K, PySem.W.Frag.In.keeps hK k, c⟩
theorem obB_eq {g : Addr → Option Obj} {s : Shared} (h : ∀ a, g a = s.heap.get? a) : obB g = hkB.obs s := by
  have e : g = s.heap.get? := funext h
  rw [e] <;> rfl
section
variable {K : PySem.W.Frag} {h : Heap} {mg : Str → Option Value}
theorem m1 {f : He.Fa} (hf : f ∈ fa1) : f ∈ fa := List.mem_append_left _ hf
theorem m2 {f : He.Fa} (hf : f ∈ fa2) : f ∈ fa := List.mem_append_right _ (List.mem_append_left _ hf)
theorem m3 {f : He.Fa} (hf : f ∈ fa3) : f ∈ fa := List.mem_append_right _ (List.mem_append_right _ hf)
theorem mC {f : He.Fa} (hf : f ∈ faC) : f ∈ fa := m1 (List.mem_append_left _ hf)
theorem tx_of (X : K.In h) (G : h.Ns mainGlobals mg) (c : He.SaysD fa fn K) (e : exB K = true) : Tx K mg := by
  obtain ⟨a1, e⟩ := ba e
  obtain ⟨a2, e⟩ := ba e
  obtain ⟨a3, e⟩ := ba e
  obtain ⟨a4, e⟩ := ba e
  obtain ⟨a5, e⟩ := ba e
  obtain ⟨a6, e⟩ := ba e
  obtain ⟨a7, e⟩ := ba e
  obtain ⟨a8, a9⟩ := ba e
  exact {
    gl := fun x hx => He.glo_ok X G (c.facts (m1 (List.mem_append_right _ (List.mem_append_left _ (List.mem_map_of_mem hx)))))
    gw := fun x hx => He.glo_ok X G (c.facts (m1 (List.mem_append_right _ (List.mem_append_right _ (List.mem_map_of_mem hx)))))
    fr := fun x hx => He.free_ok X G (c.facts (m2 (List.mem_append_left _ (List.mem_map_of_mem hx))))
    cW := He.int_ok X G (c.facts (f := .int "WIDTH" 24) (mC (by simp [faC])))
    cM := He.str_ok X G (c.facts (f := .str "MARK" "log") (mC (by simp [faC])))
    cH := He.int_ok X G (c.facts (f := .int "HEAD" 5) (mC (by simp [faC])))
    cA := He.int_ok X G (c.facts (f := .int "MOST_ATOMS" 8) (mC (by simp [faC])))
    clL := He.cls_ok (c.facts (f := .cls "Log") (mC (by simp [faC])))
    clD := He.cls_ok (c.facts (f := .cls "Disk") (mC (by simp [faC])))
    meL := fun m hm => He.meth_ok (c.facts (f := .meth "Log" m) (m2 (List.mem_append_right _ (List.mem_append_left _ (List.mem_map_of_mem hm)))))
    meD := fun m hm => He.meth_ok (c.facts (f := .meth "Disk" m) (m2 (List.mem_append_right _ (List.mem_append_right _ (List.mem_map_of_mem hm)))))
    naL := fun f hf => He.noat_ok (c.facts (f := .noat "Log" f) (m3 (List.mem_append_left _ (List.mem_map_of_mem hf))))
    naD := fun f hf => He.noat_ok (c.facts (f := .noat "Disk" f) (m3 (List.mem_append_right _ (List.mem_map_of_mem hf))))
    mkL := He.mkr_ok (c.facts (f := .mkr "Log") (mC (by simp [faC])))
    mkD := He.mkr_ok (c.facts (f := .mkr "Disk") (mC (by simp [faC])))
    eF := erB_ok a1
    eG := erB_ok a2
    eN := erB_ok a3
    eS := erB_ok a4
    fF := He.noat_ok (c.facts (f := .noat "Full" "count") (mC (by simp [faC])))
    fG := He.noat_ok (c.facts (f := .noat "Gone" "number") (mC (by simp [faC])))
    fC := He.noat_ok (c.facts (f := .noat "NoCut" "block") (mC (by simp [faC])))
    iO := by kernel_rfl
    iL := by kernel_rfl
    iV := by kernel_rfl
    iR := by kernel_rfl
    exm := fun x hx => of_decide_eq_true (List.all_eq_true.mp a5 x hx)
    kt := fun x hx y hy => of_decide_eq_true (List.all_eq_true.mp (List.all_eq_true.mp a6 x hx) y hy)
    kb := fun p hp y hy => of_decide_eq_true (List.all_eq_true.mp (List.all_eq_true.mp a7 p hp) y hy)
    ka := fun x hx => of_decide_eq_true (List.all_eq_true.mp a8 x hx)
    dist := of_decide_eq_true a9 }
end
end K51
end L2
set_option Elab.async false
set_option linter.all false
set_option maxRecDepth 100000
set_option maxHeartbeats 4000000
/-! KH2: all promises, one behind another; the law's call where no guard stands. -/
namespace L2
open PySem PySem.Spec PyProof.Rows
namespace K51
section
variable {K : PySem.W.Frag} {f : Addr} {fd : FuncData}
theorem log_b7 (F : FunD K "__init__" "Log.__init__" (defArgs sLogI) (defBody sLogI) (defScope sLogI) [.int 0, .int 0, .int 0] [] f fd) : ∃ ds, Vals [] ds ∧ Binds K fd psLog ds :=
  F.binds1 7 3 (by simp) rfl fun T kV doc pm an cdv ct us its h1 h2 => by
    match us, h1, its, h2 with
    | [_, _, _, _, _, _, _], _, [_, _, _], _ => exact ⟨_, rfl, rfl⟩
theorem log_b4 (F : FunD K "__init__" "Log.__init__" (defArgs sLogI) (defBody sLogI) (defScope sLogI) [.int 0, .int 0, .int 0] [] f fd) : ∃ ds, Vals [V.int 0, .int 0, .int 0] ds ∧ Binds K fd psLog ds :=
  F.binds1 4 0 (by simp) rfl fun T kV doc pm an cdv ct us its h1 h2 => by
    match us, h1, its, h2 with
    | [_, _, _, _], _, [_, _, _], _ => exact ⟨_, rfl, rfl⟩
end
theorem law_facts {P : Program} {w : World} {K : PySem.W.Frag} {mg : Str → Option Value} {base : Heap} (T : Tx K mg) (c : He.SaysD fa fn K) {fd : FuncData} (FL : FnP K "law" "law" sLaw (He.ga K "law") fd) : FnG P w K mg base (L2.CX P w) 11 (He.ga K "law") fd ["_law_script"] (spLaw K) := by
  obtain ⟨f0, F0⟩ := c.def_ 0 (d := gD "is_count" sIsCount) rfl
  have k_is_count : Kn P w K mg base (L2.CX P w) 1 (He.ga K "is_count") ["atom"] spIsCount := ⟨f0, ok_is_count T F0, F0.bindsN (fun _ _ _ _ _ _ us hl => match us, hl with | [_], _ => rfl), F0.kp⟩
  obtain ⟨f1, F1⟩ := c.def_ 1 (d := gD "records_in" sRecordsIn) rfl
  have k_records_in : Kn P w K mg base (L2.CX P w) 2 (He.ga K "records_in") ["atoms"] spRecordsIn := ⟨f1, ok_records_in T k_is_count F1, F1.bindsN (fun _ _ _ _ _ _ us hl => match us, hl with | [_], _ => rfl), F1.kp⟩
  obtain ⟨f2, F2⟩ := c.def_ 2 (d := gD "part_of" sPartOf) rfl
  have k_part_of : Kn P w K mg base (L2.CX P w) 3 (He.ga K "part_of") ["block"] spPartOf := ⟨f2, ok_part_of T k_is_count k_records_in F2, F2.bindsN (fun _ _ _ _ _ _ us hl => match us, hl with | [_], _ => rfl), F2.kp⟩
  obtain ⟨f3, F3⟩ := c.def_ 3 (d := gD "packed" sPacked) rfl
  have k_packed : Kn P w K mg base (L2.CX P w) 1 (He.ga K "packed") ["records"] (spPacked K) := ⟨f3, ok_packed T F3, F3.bindsN (fun _ _ _ _ _ _ us hl => match us, hl with | [_], _ => rfl), F3.kp⟩
  obtain ⟨f4, F4⟩ := c.def_ 4 (d := mDf "Full" "__init__" "Full.__init__" sFullI) rfl
  have k_Full_init : Kn P w K mg base (L2.CX P w) 1 (He.ma K (He.ga K "Full") "__init__") ["self", "count"] (spExI (He.ga K "Full") "count") := ⟨f4, ok_full_init T F4, F4.bindsN (fun _ _ _ _ _ _ us hl => match us, hl with | [_, _], _ => rfl), F4.kp⟩
  obtain ⟨f5, F5⟩ := c.def_ 5 (d := mDf "Gone" "__init__" "Gone.__init__" sGoneI) rfl
  have k_Gone_init : Kn P w K mg base (L2.CX P w) 1 (He.ma K (He.ga K "Gone") "__init__") ["self", "number"] (spExI (He.ga K "Gone") "number") := ⟨f5, ok_gone_init T F5, F5.bindsN (fun _ _ _ _ _ _ us hl => match us, hl with | [_, _], _ => rfl), F5.kp⟩
  obtain ⟨f6, F6⟩ := c.def_ 6 (d := mDf "NoCut" "__init__" "NoCut.__init__" sNoCutI) rfl
  have k_NoCut_init : Kn P w K mg base (L2.CX P w) 1 (He.ma K (He.ga K "NoCut") "__init__") ["self", "block"] (spExI (He.ga K "NoCut") "block") := ⟨f6, ok_nocut_init T F6, F6.bindsN (fun _ _ _ _ _ _ us hl => match us, hl with | [_, _], _ => rfl), F6.kp⟩
  obtain ⟨f7, F7⟩ := c.def_ 7 (d := mDf "Stopped" "__init__" "Stopped.__init__" sStoppedI) rfl
  have k_Stopped_init : Kn P w K mg base (L2.CX P w) 1 (He.ma K (He.ga K "Stopped") "__init__") ["self"] (spExN (He.ga K "Stopped")) := ⟨f7, ok_stopped_init T F7, F7.bindsN (fun _ _ _ _ _ _ us hl => match us, hl with | [_], _ => rfl), F7.kp⟩
  obtain ⟨f8, F8⟩ := c.def_ 8 (d := mDf "Disk" "look" "Disk.look" sLook) rfl
  have k_Disk_look : Kn P w K mg base (L2.CX P w) 1 (mD K "look") ["self", "place"] (spLook K) := ⟨f8, ok_look T F8, F8.bindsN (fun _ _ _ _ _ _ us hl => match us, hl with | [_, _], _ => rfl), F8.kp⟩
  obtain ⟨f9, F9⟩ := c.def_ 9 (d := mDf "Disk" "use" "Disk.use" sUse) rfl
  have k_Disk_use : Kn P w K mg base (L2.CX P w) 3 (mD K "use") ["self"] (spUse K) := ⟨f9, ok_use T k_Stopped_init F9, F9.bindsN (fun _ _ _ _ _ _ us hl => match us, hl with | [_], _ => rfl), F9.kp⟩
  obtain ⟨f10, F10⟩ := c.def_ 10 (d := mDf "Disk" "read" "Disk.read" sRead) rfl
  have k_Disk_read : Kn P w K mg base (L2.CX P w) 2 (mD K "read") ["self", "place"] (spRead K) := ⟨f10, ok_read T k_Disk_look F10, F10.bindsN (fun _ _ _ _ _ _ us hl => match us, hl with | [_, _], _ => rfl), F10.kp⟩
  obtain ⟨f11, F11⟩ := c.def_ 11 (d := mDf "Disk" "write" "Disk.write" sWrite) rfl
  have k_Disk_write : Kn P w K mg base (L2.CX P w) 4 (mD K "write") ["self", "place", "block"] (spWrite K) := ⟨f11, ok_write T k_Disk_look k_Disk_use F11, F11.bindsN (fun _ _ _ _ _ _ us hl => match us, hl with | [_, _, _], _ => rfl), F11.kp⟩
  obtain ⟨f12, F12⟩ := c.def_ 12 (d := mDf "Disk" "barrier" "Disk.barrier" sBarrier) rfl
  have k_Disk_barrier : Kn P w K mg base (L2.CX P w) 4 (mD K "barrier") ["self"] (spBarrier K) := ⟨f12, ok_barrier T k_Disk_use F12, F12.bindsN (fun _ _ _ _ _ _ us hl => match us, hl with | [_], _ => rfl), F12.kp⟩
  obtain ⟨f13, F13⟩ := c.def_ 13 (d := mDf "Disk" "loose" "Disk.loose" sLoose) rfl
  have k_Disk_loose : Kn P w K mg base (L2.CX P w) 1 (mD K "loose") ["self"] (spLoose K) := ⟨f13, ok_loose T F13, F13.bindsN (fun _ _ _ _ _ _ us hl => match us, hl with | [_], _ => rfl), F13.kp⟩
  obtain ⟨f14, F14⟩ := c.def_ 14 (d := mDf "Disk" "fail_after" "Disk.fail_after" sFail) rfl
  have k_Disk_fail_after : Kn P w K mg base (L2.CX P w) 1 (mD K "fail_after") ["self", "many"] (spFail K) := ⟨f14, ok_fail T F14, F14.bindsN (fun _ _ _ _ _ _ us hl => match us, hl with | [_, _], _ => rfl), F14.kp⟩
  obtain ⟨f15, F15⟩ := c.def_ 15 (d := mDf "Disk" "crash" "Disk.crash" sCrash) rfl
  have k_Disk_crash : Kn P w K mg base (L2.CX P w) 1 (mD K "crash") ["self", "kept"] (spCrash K) := ⟨f15, ok_crash T F15, F15.bindsN (fun _ _ _ _ _ _ us hl => match us, hl with | [_, _], _ => rfl), F15.kp⟩
  obtain ⟨f16, F16⟩ := c.def_ 16 (d := mDf "Disk" "__init__" "Disk.__init__" sDiskI) rfl
  have k_Disk_init : Kn P w K mg base (L2.CX P w) 1 (mD K "__init__") ["self", "size"] (spDiskI K) := ⟨f16, ok_disk_init T F16, F16.bindsN (fun _ _ _ _ _ _ us hl => match us, hl with | [_, _], _ => rfl), F16.kp⟩
  obtain ⟨f17, F17⟩ := c.def_ 17 (d := mDf "Log" "many" "Log.many" sMany) rfl
  have k_Log_many : Kn P w K mg base (L2.CX P w) 1 (mL K "many") ["self"] (spMany K) := ⟨f17, ok_many T F17, F17.bindsN (fun _ _ _ _ _ _ us hl => match us, hl with | [_], _ => rfl), F17.kp⟩
  obtain ⟨f18, F18⟩ := c.def_ 18 (d := mDf "Log" "safe" "Log.safe" sSafe) rfl
  have k_Log_safe : Kn P w K mg base (L2.CX P w) 1 (mL K "safe") ["self"] (spSafe K) := ⟨f18, ok_safe T F18, F18.bindsN (fun _ _ _ _ _ _ us hl => match us, hl with | [_], _ => rfl), F18.kp⟩
  obtain ⟨f19, F19⟩ := c.def_ 19 (d := mDf "Log" "epoch" "Log.epoch" sEpoch) rfl
  have k_Log_epoch : Kn P w K mg base (L2.CX P w) 1 (mL K "epoch") ["self"] (spEpoch K) := ⟨f19, ok_epoch T F19, F19.bindsN (fun _ _ _ _ _ _ us hl => match us, hl with | [_], _ => rfl), F19.kp⟩
  obtain ⟨f20, F20⟩ := c.def_ 20 (d := mDf "Log" "next_block" "Log.next_block" sNextB) rfl
  have k_Log_next_block : Kn P w K mg base (L2.CX P w) 1 (mL K "next_block") ["self"] (spNextB K) := ⟨f20, ok_next_block T F20, F20.bindsN (fun _ _ _ _ _ _ us hl => match us, hl with | [_], _ => rfl), F20.kp⟩
  obtain ⟨f21, F21⟩ := c.def_ 21 (d := mDf "Log" "place_of" "Log.place_of" sPlace) rfl
  have k_Log_place_of : Kn P w K mg base (L2.CX P w) 1 (mL K "place_of") ["self", "block"] (spPlace K) := ⟨f21, ok_place_of T F21, F21.bindsN (fun _ _ _ _ _ _ us hl => match us, hl with | [_, _], _ => rfl), F21.kp⟩
  obtain ⟨f22, F22⟩ := c.def_ 22 (d := mDf "Log" "part_at" "Log.part_at" sPartAt) rfl
  have k_Log_part_at : Kn P w K mg base (L2.CX P w) 4 (mL K "part_at") ["self", "block"] (spPartAt K) := ⟨f22, ok_part_at T k_part_of k_Disk_read k_Log_place_of F22, F22.bindsN (fun _ _ _ _ _ _ us hl => match us, hl with | [_, _], _ => rfl), F22.kp⟩
  obtain ⟨f23, F23⟩ := c.def_ 23 (d := mDf "Log" "waiting" "Log.waiting" sWaiting) rfl
  have k_Log_waiting : Kn P w K mg base (L2.CX P w) 1 (mL K "waiting") ["self"] (spWaiting K) := ⟨f23, ok_waiting T F23, F23.bindsN (fun _ _ _ _ _ _ us hl => match us, hl with | [_], _ => rfl), F23.kp⟩
  obtain ⟨f24, F24⟩ := c.def_ 24 (d := mDf "Log" "parts" "Log.parts" sParts) rfl
  have k_Log_parts : Kn P w K mg base (L2.CX P w) 4 (mL K "parts") ["self"] (spParts K) := ⟨f24, ok_parts T k_part_of k_Disk_read F24, F24.bindsN (fun _ _ _ _ _ _ us hl => match us, hl with | [_], _ => rfl), F24.kp⟩
  obtain ⟨f25, F25⟩ := c.def_ 25 (d := mDf "Log" "append" "Log.append" sAppend) rfl
  have k_Log_append : Kn P w K mg base (L2.CX P w) 2 (mL K "append") ["self", "record"] (spAppend K) := ⟨f25, ok_append T k_Log_many F25, F25.bindsN (fun _ _ _ _ _ _ us hl => match us, hl with | [_, _], _ => rfl), F25.kp⟩
  obtain ⟨f26, F26⟩ := c.def_ 26 (d := mDf "Log" "fits" "Log.fits" sFits) rfl
  have k_Log_fits : Kn P w K mg base (L2.CX P w) 2 (mL K "fits") ["self", "records"] (spFits K) := ⟨f26, ok_fits T k_packed k_Log_waiting F26, F26.bindsN (fun _ _ _ _ _ _ us hl => match us, hl with | [_, _], _ => rfl), F26.kp⟩
  obtain ⟨f27, F27⟩ := c.def_ 27 (d := mDf "Log" "read_on" "Log.read_on" sReadOn) rfl
  have k_Log_read_on : Kn P w K mg base (L2.CX P w) 5 (mL K "read_on") ["self", "floor"] (spReadOn K) := ⟨f27, ok_read_on T k_Log_part_at k_Log_many F27, F27.bindsN (fun _ _ _ _ _ _ us hl => match us, hl with | [_, _], _ => rfl), F27.kp⟩
  obtain ⟨f28, F28⟩ := c.def_ 28 (d := mDf "Log" "write" "Log.write" sWriteL) rfl
  have k_Log_write : Kn P w K mg base (L2.CX P w) 5 (mL K "write") ["self", "group"] (spWriteL K) := ⟨f28, ok_writeL T k_Disk_write k_Log_place_of F28, F28.bindsN (fun _ _ _ _ _ _ us hl => match us, hl with | [_, _], _ => rfl), F28.kp⟩
  obtain ⟨f29, F29⟩ := c.def_ 29 (d := mDf "Log" "records" "Log.records" sRecords) rfl
  have k_Log_records : Kn P w K mg base (L2.CX P w) 3 (mL K "records") ["self", "number"] (spRecords K) := ⟨f29, ok_records T k_Log_many k_Gone_init F29, F29.bindsN (fun _ _ _ _ _ _ us hl => match us, hl with | [_, _], _ => rfl), F29.kp⟩
  obtain ⟨f30, F30⟩ := c.def_ 30 (d := mDf "Log" "cut" "Log.cut" sCut) rfl
  have k_Log_cut : Kn P w K mg base (L2.CX P w) 3 (mL K "cut") ["self", "block", "record"] (spCut K) := ⟨f30, ok_cut T k_NoCut_init F30, F30.bindsN (fun _ _ _ _ _ _ us hl => match us, hl with | [_, _, _], _ => rfl), F30.kp⟩
  obtain ⟨f31, F31⟩ := c.def_ 31 (d := mDf "Log" "flush" "Log.flush" sFlush) rfl
  have k_Log_flush : Kn P w K mg base (L2.CX P w) 6 (mL K "flush") ["self"] (spFlush K) := ⟨f31, ok_flush T k_packed k_Log_waiting k_Log_fits k_Log_write k_Disk_barrier k_Full_init F31, F31.bindsN (fun _ _ _ _ _ _ us hl => match us, hl with | [_], _ => rfl), F31.kp⟩
  obtain ⟨f32, F32⟩ := c.def_ 32 (d := ⟨("Log", some "__init__"), "__init__", "Log.__init__", defArgs sLogI, defBody sLogI, defScope sLogI, [.int 0, .int 0, .int 0], []⟩) rfl
  have k_LOG : KnLog P w K mg base := ⟨f32, ok_log_init T k_Log_parts k_Log_read_on k_Log_many F32, log_b7 F32, log_b4 F32⟩
  obtain ⟨f33, F33⟩ := c.def_ 33 (d := gD "_law_take" sTake) rfl
  have k__law_take : Kn P w K mg base (L2.CX P w) 1 (He.ga K "_law_take") ["_law_box_here", "_law_below"] spTake := ⟨f33, ok_take T F33, F33.bindsN (fun _ _ _ _ _ _ us hl => match us, hl with | [_, _], _ => rfl), F33.kp⟩
  obtain ⟨f34, F34⟩ := c.def_ 34 (d := gD "_law_of" sOf) rfl
  have k__law_of : Kn P w K mg base (L2.CX P w) 2 (He.ga K "_law_of") ["_law_box_here", "_law_some_here"] (spOf K) := ⟨f34, ok_of T k__law_take F34, F34.bindsN (fun _ _ _ _ _ _ us hl => match us, hl with | [_, _], _ => rfl), F34.kp⟩
  obtain ⟨f35, F35⟩ := c.def_ 35 (d := gD "_law_atom" sAtom) rfl
  have k__law_atom : Kn P w K mg base (L2.CX P w) 3 (He.ga K "_law_atom") ["_law_box_here"] (spAtom K) := ⟨f35, ok_atom T k__law_of F35, F35.bindsN (fun _ _ _ _ _ _ us hl => match us, hl with | [_], _ => rfl), F35.kp⟩
  obtain ⟨f36, F36⟩ := c.def_ 36 (d := gD "_law_same" sSame) rfl
  have k__law_same : KnG P w K mg base (L2.CX P w) 1 (He.ga K "_law_same") ["_law_found", "_law_due"] (spSame K) := ⟨f36, ok_same T F36, F36.bindsN (fun _ _ _ _ _ _ us hl => match us, hl with | [_, _], _ => rfl), F36.kp⟩
  obtain ⟨f37, F37⟩ := c.def_ 37 (d := gD "_law_some" sSome) rfl
  have k__law_some : Kn P w K mg base (L2.CX P w) 2 (He.ga K "_law_some") ["_law_box_here", "_law_most"] spSome := ⟨f37, ok_some T k__law_take F37, F37.bindsN (fun _ _ _ _ _ _ us hl => match us, hl with | [_, _], _ => rfl), F37.kp⟩
  obtain ⟨f38, F38⟩ := c.def_ 38 (d := gD "_law_record" sRecord) rfl
  have k__law_record : Kn P w K mg base (L2.CX P w) 4 (He.ga K "_law_record") ["_law_box_here"] spRecord := ⟨f38, ok_record T k__law_take k__law_atom F38, F38.bindsN (fun _ _ _ _ _ _ us hl => match us, hl with | [_], _ => rfl), F38.kp⟩
  obtain ⟨f39, F39⟩ := c.def_ 39 (d := gD "_law_packed" sLPacked) rfl
  have k__law_packed : Kn P w K mg base (L2.CX P w) 1 (He.ga K "_law_packed") ["_law_own"] (spLPacked K) := ⟨f39, ok_lpacked T F39, F39.bindsN (fun _ _ _ _ _ _ us hl => match us, hl with | [_], _ => rfl), F39.kp⟩
  obtain ⟨f40, F40⟩ := c.def_ 40 (d := gD "_law_told" sTold) rfl
  have k__law_told : Kn P w K mg base (L2.CX P w) 7 (He.ga K "_law_told") ["_law_roll", "_law_deed"] (spTold K) := ⟨f40, ok_told T k_Log_append k_Log_records k_Log_flush k_Log_cut F40, F40.bindsN (fun _ _ _ _ _ _ us hl => match us, hl with | [_, _], _ => rfl), F40.kp⟩
  obtain ⟨f41, F41⟩ := c.def_ 41 (d := gD "_law_wrong_right" sWR) rfl
  have k__law_wrong_right : KnG P w K mg base (L2.CX P w) 8 (He.ga K "_law_wrong_right") ["_law_box_here", "_law_roll", "_law_state"] (spWR K) := ⟨f41, ok_wr T k__law_take k__law_same k__law_told F41, F41.bindsN (fun _ _ _ _ _ _ us hl => match us, hl with | [_, _, _], _ => rfl), F41.kp⟩
  obtain ⟨f42, F42⟩ := c.def_ 42 (d := gD "_law_flushed" sFlushed) rfl
  have k__law_flushed : KnG P w K mg base (L2.CX P w) 8 (He.ga K "_law_flushed") ["_law_roll", "_law_state", "_law_ring"] (spFlushed K) := ⟨f42, ok_flushed T k__law_packed k__law_same k__law_told k_Log_epoch F42, F42.bindsN (fun _ _ _ _ _ _ us hl => match us, hl with | [_, _, _], _ => rfl), F42.kp⟩
  obtain ⟨f43, F43⟩ := c.def_ 43 (d := gD "_law_cut" sLCut) rfl
  have k__law_cut : KnG P w K mg base (L2.CX P w) 8 (He.ga K "_law_cut") ["_law_box_here", "_law_roll", "_law_state"] (spLCut K) := ⟨f43, ok_lcut T k__law_of k__law_same k__law_told F43, F43.bindsN (fun _ _ _ _ _ _ us hl => match us, hl with | [_, _, _], _ => rfl), F43.kp⟩
  obtain ⟨f44, F44⟩ := c.def_ 44 (d := gD "_law_crashed" sCrashed) rfl
  have k__law_crashed : Kn P w K mg base (L2.CX P w) 8 (He.ga K "_law_crashed") ["_law_box_here", "_law_plate", "_law_roll", "_law_state", "_law_ring"] (spCrashed K) := ⟨f44, ok_crashed T k__law_packed k__law_told k_Disk_fail_after k_Disk_loose k_Disk_crash k__law_some F44, F44.bindsN (fun _ _ _ _ _ _ us hl => match us, hl with | [_, _, _, _, _], _ => rfl), F44.kp⟩
  obtain ⟨f45, F45⟩ := c.def_ 45 (d := gD "_law_step" sStep) rfl
  have k__law_step : KnG P w K mg base (L2.CX P w) 9 (He.ga K "_law_step") ["_law_box_here", "_law_plate", "_law_roll", "_law_state", "_law_ring"] (spStep K) := ⟨f45, ok_step T k__law_take k__law_record k__law_same k__law_told k__law_flushed k__law_cut k__law_crashed k_LOG k_Log_epoch F45, F45.bindsN (fun _ _ _ _ _ _ us hl => match us, hl with | [_, _, _, _, _], _ => rfl), F45.kp⟩
  obtain ⟨f46, F46⟩ := c.def_ 46 (d := gD "_law_right" sRight) rfl
  have k__law_right : KnG P w K mg base (L2.CX P w) 10 (He.ga K "_law_right") ["_law_box_here"] (spRight K) := ⟨f46, ok_right T k__law_take k__law_same k__law_step k__law_wrong_right k_LOG k_Disk_init k_Log_many k_Log_safe k_Log_next_block k_Log_records k_Disk_read F46, F46.bindsN (fun _ _ _ _ _ _ us hl => match us, hl with | [_], _ => rfl), F46.kp⟩
  obtain ⟨f47, F47⟩ := c.def_ 47 (d := gD "_law_cells" sCells) rfl
  have k__law_cells : Kn P w K mg base (L2.CX P w) 1 (He.ga K "_law_cells") ["_law_script", "_law_most"] (spCells K) := ⟨f47, ok_cells T F47, F47.bindsN (fun _ _ _ _ _ _ us hl => match us, hl with | [_, _], _ => rfl), F47.kp⟩
  obtain ⟨f48, F48⟩ := c.def_ 48 (d := gD "_law_box" sBox) rfl
  have k__law_box : Kn P w K mg base (L2.CX P w) 1 (He.ga K "_law_box") ["_law_cells_here", "_law_k"] (spBox K) := ⟨f48, ok_box T F48, F48.bindsN (fun _ _ _ _ _ _ us hl => match us, hl with | [_, _], _ => rfl), F48.kp⟩
  exact ok_law T k__law_cells k__law_box k__law_right FL
end K51
end L2
set_option Elab.async false
set_option linter.all false
set_option maxRecDepth 100000
set_option maxHeartbeats 0
/-! KH3: the run of the top. -/
namespace L2
open PySem PySem.Spec PyProof.Rows
namespace K51
abbrev Rw : PySem.W.OpenRow := PySem.W.OpenLaw.row PySem.Challenge.rw_lastingrun_k51_whole_rings_that_are_cut
abbrev qv : Program := PySem.W.view Rw.prog [38]
def names1 : List PySem.Str := ["_wall", "NoLoose", "NoCut", "NoPlace", "NoBlock", "Gone", "Stopped", "Full", "WIDTH", "MARK", "HEAD", "MOST_ATOMS", "is_count", "records_in", "part_of", "packed", "Log"]
def names2 : List PySem.Str := ["Disk", "_law_cells", "_law_box", "_law_take", "_law_of", "_law_same", "_law_atom", "_law_some", "_law_record", "_law_packed", "_law_told", "_law_wrong_right", "_law_flushed", "_law_cut", "_law_crashed", "_law_step", "_law_right"]
def topNames : List PySem.Str := names1 ++ names2
def obT (s : PySem.W.SharedT) : AlB := obB (HandSHeadRun.getT s)
theorem obT_eq (s : PySem.W.SharedT) : obT s = hkB.obs s.abs := obB_eq (HandSHeadRun.getT_eq s)
theorem runTop (w : World) : HandSHeadRun.RunEq Rw qv hkB obT 4000 topNames w := by
  intro os
  kernel_rfl
end K51
end L2
set_option Elab.async false
set_option linter.all false
set_option maxRecDepth 100000
set_option maxHeartbeats 4000000
/-! KH4: the law's call, the end. -/
namespace L2
open PySem PySem.Spec PyProof.Rows
namespace K51
/-- the law's call from outside, by a promise that asks that no guard stands (law_call of the layer, for FnG) -/
theorem law_callG {P : Program} {w : World} {K : PySem.W.Frag} {mg mb : Str → Option Value} {k : Nat} {fa a : Addr} {fd : FuncData} {x : Str} {sp : Sp} {s₁ : Shared} {vs : List Value} {ns : List Int}
    (KX : K.In s₁.heap) (hns : s₁.heap.Ns mainGlobals mg) (hb : s₁.heap.Ns builtinsNs mb) (hbb : ∀ x : Str, x ≠ "__name__" → mb x = bootBuiltins x) (hlim : s₁.heap.NoLimit) (hg : s₁.gens = #[])
    (ha : s₁.heap.get? a = some { cls := .type "list", data := .seq vs.toArray }) (hi : IntsAre vs ns) (hl : ns.length ≤ sizeLine) (hr : Room k callerA)
    (F : ∀ base : Heap, K.In base → base.Ns mainGlobals mg → FnG P w K mg base (L2.CX P w) k fa fd [x] sp) (hbind : ∀ (s : Shared) (u : Value), BindsTo s fd ⟨[u], []⟩ [(x, u)])
    (hsp : ∀ H : Hp, SqL K H a (ns.map V.int) → sp [.ref a] H (fun v _ => v = .bl true) fun _ _ _ => False) :
    codeAny (model P w) callerA (.call (.ref fa) ⟨[.ref a], []⟩) (fun r s' => r = .ok (.ret (.bool true)) ∧ OldK s₁.heap s'.heap ∧ s'.os = s₁.os ∧ AllBare s'.gens) s₁ := by
  have rv := vals_ints hi
  have lenV := hi.length
  have core : ∀ H : Hp, Only H → SqL K H a (ns.map V.int) → HOk P w H s₁.heap → (∀ b, H b ≠ none → b = a) → (H a ≠ none → K.lookup a = none) →
      codeAny (model P w) callerA (.call (.ref fa) ⟨[.ref a], []⟩) (fun r s' => r = .ok (.ret (.bool true)) ∧ OldK s₁.heap s'.heap ∧ s'.os = s₁.os ∧ AllBare s'.gens) s₁ := by
    intro H hO hS hok hA hK
    have only_a : ∀ {b : Addr}, b ≠ a → H b = none := fun {b} n => by
      cases q : H b with
      | none => rfl
      | some u => exact absurd (hA b (by rw [q]; simp)) n
    have not_dict : ∀ {b : Addr} {o : Obj} {es : Array DictEntry} {ep : Nat}, s₁.heap.get? b = some o → o.data = .dict es ep → H b = none := fun {b o es ep} e d => only_a fun z => by
      rw [z, ha] at e
      cases e
      have d' : Data.seq vs.toArray _ = Data.dict es ep := d
      cases d'
    have nsK : ∀ {b : Addr} {m : Str → Option Value}, s₁.heap.Ns b m → (hidT s₁.heap H).Ns b m := fun {b m} ⟨o, es, ep, e, d, r⟩ => ⟨o, es, ep, hidT_get e (not_dict e d), d, r⟩
    have hKb : K.In (hidT s₁.heap H) := fun b o e => hidT_get (KX b o e) (by
      cases q : H b with
      | none => rfl
      | some u =>
        have z := hA b (by rw [q]; simp)
        rw [z] at e q
        rw [hK (by rw [q]; simp)] at e
        cases e)
    have hM : Mod K mg (hidT s₁.heap H) := ⟨hKb, nsK hns, ⟨mb, nsK hb, hbb⟩, let ⟨mc, h1, h2⟩ := hlim; ⟨mc, nsK h1, h2⟩⟩
    have e0 : Env0 P w K mg (hidT s₁.heap H) callerA [] s₁ H := ⟨rfl, hM, fun b o e => of_hidT e, Nat.le_of_eq (hidT_size _ _), trivial, fun b hb => absurd (show b ∈ ([] : List Addr) from hb) (by simp), hok, .of_eq hg⟩
    refine codeAny_mono ((F _ hKb (nsK hns)).run callerA [] s₁ H ⟨[.ref a], []⟩ [.ref a] [.ref a] _ _ rfl hr e0 (hbind s₁ (.ref a)) (.cons rfl .nil) (hsp H hS)) fun r s' h => ?_
    rcases r with e | fl
    · obtain ⟨_, _, _, _, _, _, _, _, _, _, _, _, z⟩ := h
      exact z.elim
    cases fl with
    | next => exact False.elim h
    | brk => exact False.elim h
    | cont => exact False.elim h
    | ret u =>
      obtain ⟨v, H', os, bare, un, hok', r', q⟩ := h
      have q' : v = .bl true := q
      subst q'
      obtain rfl : u = Value.bool true := r'
      refine ⟨rfl, OldK.of_keep fun b o e => ?_, os, bare⟩
      rcases hO b with z | ⟨ob, xs, z⟩
      · exact un.keep b o e z (by intro y; exact absurd (show b ∈ ([] : List Addr) from y) (by simp)) (by simp)
      · obtain ⟨e1, _⟩ := hok b _ z
        obtain ⟨e2, _⟩ := hok' b _ (un.frzs b ob _ z)
        rw [e] at e1; cases e1
        exact e2
  cases hk : K.lookup a with
  | some o =>
    have e := KX a o hk
    rw [ha] at e
    cases e
    exact core (fun _ => none) (fun _ => .inl rfl) (.inr ⟨_, vs.toArray, _, hk, rfl, rfl, rfl, by rw [List.size_toArray, lenV]; exact hl, by simpa using rv⟩) (fun b u z => by have z' : (none : Option HO) = some u := z; cases z') (fun b z => absurd rfl z) fun z => absurd rfl z
  | none =>
    have at_a : ∀ {b : Addr} {u : HO}, (if b = a then some (HO.frz { cls := .type "list", data := .seq vs.toArray } (.lst (ns.map V.int))) else none) = some u → b = a ∧ u = .frz { cls := .type "list", data := .seq vs.toArray } (.lst (ns.map V.int)) := fun {b u} z => by
      by_cases hb : b = a
      · rw [if_pos hb] at z; exact ⟨hb, (Option.some.inj z).symm⟩
      · rw [if_neg hb] at z; cases z
    refine core (fun b => if b = a then some (.frz { cls := .type "list", data := .seq vs.toArray } (.lst (ns.map V.int))) else none) (fun b => ?_) (.inl (.inr ⟨{ cls := .type "list", data := .seq vs.toArray }, if_pos rfl⟩)) (fun b u z => ?_) (fun b z => ?_) fun _ => hk
    · by_cases hb : b = a
      · exact .inr ⟨_, _, if_pos hb⟩
      · exact .inl (if_neg hb)
    · obtain ⟨hb, hu⟩ := at_a z
      subst hb hu
      exact ⟨ha, by rw [List.length_map]; exact hl, vs, _, rv, ha⟩
    · cases q : (if b = a then some (HO.frz { cls := .type "list", data := .seq vs.toArray } (.lst (ns.map V.int))) else none) with
      | none => exact absurd q z
      | some u => exact (at_a q).1
end K51
end L2
open PySem PySem.W PySem.Calls PyProof.Rows
theorem PySem.Challenge.cw_lastingrun_k51_whole_rings_that_are_cut_holds : PySem.Challenge.rw_lastingrun_k51_whole_rings_that_are_cut.Holds := by
  w_on; o_law
  refine HandSHeadRun.head_any (r := OpenLaw.row PySem.Challenge.rw_lastingrun_k51_whole_rings_that_are_cut) (q := view (OpenLaw.row PySem.Challenge.rw_lastingrun_k51_whole_rings_that_are_cut).prog [38]) (H := L2.K51.hkB) (ob := L2.K51.obT) (M := 4000) (loose := L2.K51.topNames) (d := HandSHeadRun.topDef (OpenLaw.row PySem.Challenge.rw_lastingrun_k51_whole_rings_that_are_cut).prog 38) (kwd := []) L2.K51.obT_eq
    (by kernel_rfl) (fun s => by kernel_rfl) L2.K51.runTop (by kernel_rfl) (by kernel_rfl) (by kernel_rfl) (by rfl) (by first | assumption | decide +kernel) (by decide +kernel) ⟨rfl, rfl, rfl, rfl, rfl, by decide +kernel⟩ ?hw ?hc
  case hw => w_witness2
  case hc =>
    refine Att.attach_call (l := PySem.Challenge.rw_lastingrun_k51_whole_rings_that_are_cut) (n := 63) rfl (by kernel_rfl) fun w s₀ s₁ mg mb fa o pm cd doc a vs ns G Y ho hd hcd hmg0 hobj hints hlen hg => ?_
    obtain ⟨K, KX, c, e⟩ := Y
    have hmg : mg ("law" : PySem.Str) = some (.ref fa) := by
      have e : (HandSHeadRun.topDef (OpenLaw.row PySem.Challenge.rw_lastingrun_k51_whole_rings_that_are_cut).prog 38).name = ("law" : PySem.Str) := by kernel_rfl
      rw [← e]
      exact hmg0
    have T := L2.K51.tx_of KX G.T.g c e
    obtain ⟨fd, FL⟩ := c.def_ 49 (d := L2.K51.gD "law" L2.K51.sLaw) rfl
    have ef := hmg.symm.trans (He.glo_ok KX G.T.g (c.facts (f := .glo "law") (L2.K51.mC (by simp [L2.K51.faC]))))
    cases ef
    have b := L2.FunD.bindsA (ps := ["_law_script"]) FL fun _ _ _ _ _ _ us hl => match us, hl with | [_], _ => rfl
    exact L2.K51.law_callG (k := 11) (x := "_law_script") (sp := L2.K51.spLaw K) KX G.T.g G.T.b G.T.builtins G.T.nolimit hg hobj hints (Nat.le_trans hlen (by decide)) ⟨rfl, by decide, by decide⟩ (fun base _ _ => L2.K51.law_facts T c FL) (fun s u => b s [u] rfl) fun H hS => ⟨a, ns, rfl, hS, hlen, fun _ => rfl⟩
