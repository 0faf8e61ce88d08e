import PyProof.Rows.All
import Wide.All
import OpenK.AllK
import Wide.FinOn
import KE.KNest
import HandS.ForMost
import HandS.IsInst
import HandS.AnyAll
import HandS.Nested
import KE.SortData
import PyProof.Transfer
import KE.KDictKeyed
import KE.KDictDisplayH
import HandS.Conv
import KE.GoesEnum
import HandS.Walk
import HandS.Star
import HandS.TupAny
import PySem.Challenge.RW_eventcore_k23_whole_waiting
import HandS.Style
import HandS.Codes
import HandS.EndTab
import HandS.EndOwn
set_option Elab.async false
set_option linter.all false
set_option maxRecDepth 100000
set_option maxHeartbeats 8000000
/-! Plain mathematics of the law: paths of start times, the layers, the search. No program in sight. -/
namespace K23

abbrev Job := Int × Int × Int
abbrev Pth := List (Nat × Int)

def jobAt (js : List Job) (k : Nat) : Job := js.getD k (0, 0, 0)
def arr (js : List Job) (k : Nat) : Int := (jobAt js k).1
def lng (js : List Job) (k : Nat) : Int := (jobAt js k).2.1
def due (js : List Job) (k : Nat) : Int := (jobAt js k).2.2

/-- the greater and the lesser, as the program's own built-ins tell them -/
def mx (a b : Int) : Int := if b > a then b else a
theorem mx_le {a b c : Int} : mx a b ≤ c ↔ a ≤ c ∧ b ≤ c := by unfold mx; split <;> omega
theorem le_mx_l (a b : Int) : a ≤ mx a b := by unfold mx; split <;> omega
theorem le_mx_r (a b : Int) : b ≤ mx a b := by unfold mx; split <;> omega
theorem mx_or (a b : Int) : mx a b = a ∨ mx a b = b := by unfold mx; split <;> simp

def stt (js : List Job) (now : Int) (k : Nat) : Int := mx now (arr js k)
def fits (js : List Job) (now : Int) (k : Nat) : Bool := decide (stt js now k + lng js k ≤ due js k)

def leftS (n : Nat) (s : List Nat) : List Nat := (List.range n).filter fun k => decide (k ∉ s)
theorem mem_leftS {n : Nat} {s : List Nat} {k : Nat} : k ∈ leftS n s ↔ k < n ∧ k ∉ s := by
  unfold leftS; rw [List.mem_filter, List.mem_range]; simp

/-- the least of some numbers -/
def mn : List Int → Int
  | [] => 0
  | [x] => x
  | x :: y :: r => let m := mn (y :: r); if x ≤ m then x else m
theorem mn_le : ∀ (l : List Int) (x : Int), x ∈ l → mn l ≤ x
  | [], _, h => by cases h
  | [y], x, h => by
    have e : x = y := by simpa using h
    subst e; exact Int.le_refl _
  | a :: b :: r, x, h => by
    have ih := mn_le (b :: r)
    show (if a ≤ mn (b :: r) then a else mn (b :: r)) ≤ x
    rcases List.mem_cons.mp h with e | h
    · subst e; split <;> omega
    · have := ih x h
      split <;> omega
theorem mn_mem : ∀ (l : List Int), l ≠ [] → mn l ∈ l
  | [], h => absurd rfl h
  | [y], _ => by simp [mn]
  | a :: b :: r, _ => by
    have ih := mn_mem (b :: r) (by simp)
    show (if a ≤ mn (b :: r) then a else mn (b :: r)) ∈ a :: b :: r
    split
    · exact List.mem_cons_self
    · exact List.mem_cons_of_mem _ ih
theorem mn_uniq {l : List Int} {m : Int} (h1 : m ∈ l) (h2 : ∀ x ∈ l, m ≤ x) : m = mn l := by
  have a := mn_le l m h1
  have b := h2 _ (mn_mem l (by intro e; subst e; cases h1))
  omega

/-- the earliest time at which one of the jobs that are left can begin -/
def lst (js : List Job) (now : Int) (s : List Nat) : Int := mx now (mn ((leftS js.length s).map (arr js)))
theorem lst_congr {js : List Job} {now : Int} {s s' : List Nat} (h : ∀ k, k ∈ s ↔ k ∈ s') : lst js now s = lst js now s' := by
  unfold lst leftS
  rw [List.filter_congr (q := fun k => decide (k ∉ s')) fun k _ => by simp [h k]]
theorem leftS_congr {n : Nat} {s s' : List Nat} (h : ∀ k, k ∈ s ↔ k ∈ s') : leftS n s = leftS n s' := by
  unfold leftS
  exact List.filter_congr fun k _ => by simp [h k]
theorem lst_le {js : List Job} {now : Int} {s : List Nat} {k : Nat} (h : k ∈ leftS js.length s) : lst js now s ≤ stt js now k := by
  have := mn_le _ _ (List.mem_map.mpr ⟨k, h, rfl⟩ : arr js k ∈ (leftS js.length s).map (arr js))
  unfold lst stt
  rw [mx_le]
  exact ⟨le_mx_l _ _, Int.le_trans this (le_mx_r _ _)⟩

abbrev dn (c : Pth) : List Nat := c.map Prod.fst

/-- c: the jobs begun and their starts; now: the end of the last; w: whether it waits somewhere -/
inductive Path (js : List Job) : Pth → Int → Bool → Prop
  | nil : Path js [] 0 false
  | snoc {c : Pth} {now : Int} {w : Bool} {k : Nat} : Path js c now w → k ∈ leftS js.length (dn c) → fits js now k = true →
      Path js (c ++ [(k, stt js now k)]) (stt js now k + lng js k) (w || decide (stt js now k > lst js now (dn c)))

theorem Path.inv {js : List Job} {c : Pth} {p : Nat × Int} {now' : Int} {w' : Bool} (h : Path js (c ++ [p]) now' w') :
    ∃ now w, Path js c now w ∧ p.1 ∈ leftS js.length (dn c) ∧ fits js now p.1 = true ∧ p.2 = stt js now p.1 ∧ now' = stt js now p.1 + lng js p.1 ∧ w' = (w || decide (stt js now p.1 > lst js now (dn c))) := by
  generalize e : c ++ [p] = d at h
  cases h with
  | nil => simp at e
  | snoc h1 h2 h3 =>
    have q := List.append_inj' e rfl
    obtain ⟨q1, q2⟩ := q
    subst q1
    have q3 := List.head_eq_of_cons_eq q2
    subst q3
    exact ⟨_, _, h1, h2, h3, rfl, rfl, rfl⟩

theorem Path.det {js : List Job} {c : Pth} {now : Int} {w : Bool} (h : Path js c now w) : ∀ {now' : Int} {w' : Bool}, Path js c now' w' → now' = now ∧ w' = w := by
  induction h with
  | nil =>
    intro now' w' h'
    generalize e : ([] : Pth) = d at h'
    cases h' with
    | nil => exact ⟨rfl, rfl⟩
    | snoc _ _ _ => simp at e
  | snoc h1 h2 h3 ih =>
    intro now' w' h'
    obtain ⟨n1, w1, a, _, _, e1, e2, e3⟩ := h'.inv
    obtain ⟨rfl, rfl⟩ := ih a
    exact ⟨e2, e3⟩

theorem Path.nodup {js : List Job} {c : Pth} {now : Int} {w : Bool} (h : Path js c now w) : (dn c).Nodup ∧ ∀ k ∈ dn c, k < js.length := by
  induction h with
  | nil => exact ⟨List.nodup_nil, fun _ h => by cases h⟩
  | @snoc c now w k h1 h2 h3 ih =>
    rw [mem_leftS] at h2
    constructor
    · show (List.map _ _).Nodup
      rw [List.map_append]
      refine List.nodup_append.mpr ⟨ih.1, List.pairwise_singleton _ _, ?_⟩
      intro a ha b hb
      have hb' := List.mem_singleton.mp hb
      rw [hb']
      intro e
      have e' : a = k := e
      subst e'
      exact h2.2 ha
    · intro k hk
      have hk := hk
      unfold dn at hk
      rw [List.map_append] at hk
      rcases List.mem_append.mp hk with hk | hk
      · exact ih.2 k hk
      · have hk' := List.mem_singleton.mp hk
        rw [hk']
        exact h2.1
theorem nodup_sub : ∀ {l m : List Nat}, l.Nodup → (∀ k ∈ l, k ∈ m) → ∃ r, (l ++ r).Perm m
  | [], m, _, _ => ⟨m, List.Perm.refl _⟩
  | x :: l, m, h, hs => by
    have hx := hs x List.mem_cons_self
    have hn := List.nodup_cons.mp h
    obtain ⟨r, p⟩ := nodup_sub (m := m.erase x) hn.2 fun k hk => (List.mem_erase_of_ne fun (e : k = x) => hn.1 (e ▸ hk)).mpr (hs k (List.mem_cons_of_mem _ hk))
    exact ⟨r, (List.Perm.cons x p).trans (List.perm_cons_erase hx).symm⟩
theorem nodup_le {l : List Nat} {n : Nat} (h : l.Nodup) (hl : ∀ k ∈ l, k < n) : l.length ≤ n := by
  obtain ⟨r, p⟩ := nodup_sub h (m := List.range n) fun k hk => List.mem_range.mpr (hl k hk)
  have := p.length_eq
  simp only [List.length_append, List.length_range] at this
  omega
theorem nodup_all {l : List Nat} {n : Nat} (h : l.Nodup) (hl : ∀ k ∈ l, k < n) (hn : l.length = n) : l.Perm (List.range n) := by
  obtain ⟨r, p⟩ := nodup_sub h (m := List.range n) fun k hk => List.mem_range.mpr (hl k hk)
  have e := p.length_eq
  simp only [List.length_append, List.length_range] at e
  have : r = [] := List.length_eq_zero_iff.mp (by omega)
  subst this
  simpa using p
theorem Path.len {js : List Job} {c : Pth} {now : Int} {w : Bool} (h : Path js c now w) : c.length ≤ js.length := by
  have := nodup_le h.nodup.1 h.nodup.2
  simpa using this

/-- what each begun job's start keeps -/
theorem Path.each {js : List Job} {c : Pth} {now : Int} {w : Bool} (hl : ∀ k, k < js.length → 1 ≤ lng js k) (h : Path js c now w) : ∀ p ∈ c, 0 ≤ p.2 ∧ arr js p.1 ≤ p.2 ∧ p.2 + lng js p.1 ≤ due js p.1 ∧ p.2 + lng js p.1 ≤ now := by
  have pos : ∀ {c now w}, Path js c now w → 0 ≤ now := by
    intro c now w h
    induction h with
    | nil => exact Int.le_refl _
    | snoc h1 h2 h3 ih =>
      have b := hl _ (mem_leftS.mp h2).1
      exact Int.le_trans (Int.le_trans ih (le_mx_l _ _)) (Int.le_trans (Int.le_of_eq rfl) (Int.le_add_of_nonneg_right (by omega)))
  induction h with
  | nil => intro p hp; cases hp
  | @snoc c now w k h1 h2 h3 ih =>
    intro p hp
    have n1 : now ≤ stt js now k := le_mx_l _ _
    have n2 := hl k (mem_leftS.mp h2).1
    rcases List.mem_append.mp hp with hp | hp
    · obtain ⟨a, b, c, d⟩ := ih p hp
      exact ⟨a, b, c, by omega⟩
    · have : p = (k, stt js now k) := by simpa using hp
      subst this
      have n0 := pos h1
      exact ⟨by show 0 ≤ stt js now k; omega, le_mx_r _ _, of_decide_eq_true h3, Int.le_refl _⟩

theorem Path.order {js : List Job} {c : Pth} {now : Int} {w : Bool} (hl : ∀ k, k < js.length → 1 ≤ lng js k) (h : Path js c now w) : c.Pairwise fun p q => p.2 + lng js p.1 ≤ q.2 := by
  induction h with
  | nil => exact List.Pairwise.nil
  | @snoc c now w k h1 h2 h3 ih =>
    refine List.pairwise_append.mpr ⟨ih, List.pairwise_singleton _ _, fun p hp q hq => ?_⟩
    have : q = (k, stt js now k) := by simpa using hq
    subst this
    have := (h1.each hl p hp).2.2.2
    exact Int.le_trans this (le_mx_l _ _)

/-- a path's beginnings are paths -/
theorem Path.pre {js : List Job} (hl : ∀ k, k < js.length → 1 ≤ lng js k) : ∀ (r : Pth) {c : Pth} {now2 : Int} {w2 : Bool}, Path js (c ++ r) now2 w2 →
    ∃ now w, Path js c now w ∧ now ≤ now2 ∧ (∀ p ∈ r, now ≤ p.2) ∧ (w2 = false → w = false) := by
  intro r
  generalize hn : r.length = n
  induction n generalizing r with
  | zero =>
    intro c now2 w2 h
    have : r = [] := List.length_eq_zero_iff.mp hn
    subst this
    rw [List.append_nil] at h
    exact ⟨_, _, h, Int.le_refl _, (fun _ hp => nomatch hp), fun e => e⟩
  | succ n ih =>
    intro c now2 w2 h
    have hne : r ≠ [] := by intro e; subst e; cases hn
    have er := List.dropLast_concat_getLast hne
    rw [← er, ← List.append_assoc] at h
    obtain ⟨n1, w1, a, b, _, e1, e2, e3⟩ := h.inv
    obtain ⟨now, w, p1, p2, p3, p4⟩ := ih r.dropLast (by simp [hn]) a
    have q1 : n1 ≤ stt js n1 (r.getLast hne).1 := le_mx_l _ _
    have q2 := hl _ (mem_leftS.mp b).1
    refine ⟨now, w, p1, by omega, fun p hp => ?_, fun e => p4 ?_⟩
    · rw [← er] at hp
      rcases List.mem_append.mp hp with hp | hp
      · exact p3 p hp
      · have : p = r.getLast hne := by simpa using hp
        subst this
        omega
    · rw [e3] at e
      simp only [Bool.or_eq_false_iff] at e
      exact e.1

/-- all jobs begun -/
def Full (js : List Job) (mw : Bool) (c : Pth) : Prop := ∃ now w, Path js c now w ∧ c.length = js.length ∧ (mw = true ∨ w = false)

theorem full_left {js : List Job} {c : Pth} {now : Int} {w : Bool} (h : Path js c now w) (hc : c.length = js.length) : ∀ k, k < js.length → k ∈ dn c := by
  intro k hk
  have h1 := h.nodup
  exact (nodup_all h1.1 h1.2 (by simpa using hc)).mem_iff.mpr (List.mem_range.mpr hk)
theorem full_perm {js : List Job} {c : Pth} {now : Int} {w : Bool} (h : Path js c now w) (hc : c.length = js.length) : (dn c).Perm (List.range js.length) := by
  have h1 := h.nodup
  exact nodup_all h1.1 h1.2 (by simpa using hc)

/-- where some job that is left does not fit, no path goes on to the end -/
theorem prune {js : List Job} (hl : ∀ k, k < js.length → 1 ≤ lng js k) {c r : Pth} {now now2 : Int} {w w2 : Bool} (h : Path js c now w) (h2 : Path js (c ++ r) now2 w2) (hf : (c ++ r).length = js.length) {k : Nat} (hk : k ∈ leftS js.length (dn c)) : fits js now k = true := by
  obtain ⟨n', w', a, _, b, _⟩ := Path.pre hl r h2
  obtain ⟨rfl, _⟩ := h.det a
  have m := full_left h2 hf k (mem_leftS.mp hk).1
  obtain ⟨p, hp, e⟩ := List.mem_map.mp m
  have hr : p ∈ r := by
    rcases List.mem_append.mp hp with z | z
    · exact absurd (List.mem_map.mpr ⟨p, z, e⟩) (mem_leftS.mp hk).2
    · exact z
  have e1 := h2.each hl p hp
  have e2 := b p hr
  subst e
  refine decide_eq_true ?_
  have : stt js n' p.1 ≤ p.2 := mx_le.mpr ⟨e2, e1.2.1⟩
  omega
/-- .. and where it goes on, it goes on by one of the program's steps -/
theorem goOn {js : List Job} (hl : ∀ k, k < js.length → 1 ≤ lng js k) {mw : Bool} {c r : Pth} {now now2 : Int} {w w2 : Bool} (h : Path js c now w) (h2 : Path js (c ++ r) now2 w2) (hf : (c ++ r).length = js.length) (hw : mw = true ∨ w2 = false) (hc : c.length < js.length) :
    ∃ k r', k ∈ leftS js.length (dn c) ∧ fits js now k = true ∧ (mw = true ∨ stt js now k = lst js now (dn c)) ∧ r = (k, stt js now k) :: r' := by
  cases r with
  | nil => rw [List.append_nil] at hf; omega
  | cons p r' =>
    have e : c ++ p :: r' = (c ++ [p]) ++ r' := by simp
    rw [e] at h2
    obtain ⟨n1, w1, a, _, _, b⟩ := Path.pre hl r' h2
    obtain ⟨n0, w0, a0, a1, a2, a3, a4, a5⟩ := a.inv
    obtain ⟨rfl, rfl⟩ := h.det a0
    refine ⟨p.1, r', a1, a2, ?_, by rw [← a3]⟩
    rcases hw with z | z
    · exact .inl z
    · have := b z
      rw [a5] at this
      simp only [Bool.or_eq_false_iff, decide_eq_false_iff_not] at this
      have q := lst_le (now := n0) a1
      exact .inr (by omega)

/-! ### the search's stack -/
abbrev Stk := List (Int × Pth)
def wt : Nat → Nat
  | 0 => 1
  | r + 1 => (r + 1) * wt r + 1
def meas (n : Nat) (st : Stk) : Nat := (st.map fun e => wt (n - e.2.length)).sum
theorem meas_append (n : Nat) (a b : Stk) : meas n (a ++ b) = meas n a + meas n b := by simp [meas]
theorem wt_pos (r : Nat) : 1 ≤ wt r := by cases r <;> simp [wt]
structure Good (js : List Job) (mw : Bool) (st : Stk) : Prop where
  sound : ∀ e ∈ st, ∃ w, Path js e.2 e.1 w ∧ (mw = true ∨ w = false)
  all : ∀ c, Full js mw c → ∃ e ∈ st, ∃ r, c = e.2 ++ r
theorem Good.start (js : List Job) (mw : Bool) : Good js mw [(0, [])] :=
  ⟨fun e he => by
    have : e = (0, []) := by simpa using he
    subst this
    exact ⟨false, .nil, .inr rfl⟩, fun c _ => ⟨_, List.mem_singleton.mpr rfl, c, rfl⟩⟩
theorem Good.stop {js : List Job} {mw : Bool} (g : Good js mw []) : ¬ ∃ c, Full js mw c := fun ⟨c, h⟩ => by
  obtain ⟨e, he, _⟩ := g.all c h
  cases he
theorem Good.hit {js : List Job} {mw : Bool} {st : Stk} {now : Int} {c : Pth} (g : Good js mw (st ++ [(now, c)])) (hc : c.length = js.length) : Full js mw c := by
  obtain ⟨w, h, hw⟩ := g.sound (now, c) (by simp)
  exact ⟨now, w, h, hc, hw⟩
/-- the children of an entry -/
def kids (js : List Job) (mw : Bool) (now : Int) (c : Pth) (ks : List Nat) : Stk :=
  (ks.filter fun k => mw || decide (stt js now k = lst js now (dn c))).map fun k => (stt js now k + lng js k, c ++ [(k, stt js now k)])
theorem kids_nil (js : List Job) (mw : Bool) (now : Int) (c : Pth) : kids js mw now c [] = [] := rfl
theorem kids_snoc (js : List Job) (mw : Bool) (now : Int) (c : Pth) (ks : List Nat) (k : Nat) : kids js mw now c (ks ++ [k]) = kids js mw now c ks ++ (if (mw || decide (stt js now k = lst js now (dn c))) = true then [(stt js now k + lng js k, c ++ [(k, stt js now k)])] else []) := by
  unfold kids
  rw [List.filter_append, List.map_append]
  congr 1
  by_cases h : (mw || decide (stt js now k = lst js now (dn c))) = true
  · rw [if_pos h]; simp [List.filter, h]
  · rw [if_neg h]
    have h' : (mw || decide (stt js now k = lst js now (dn c))) = false := by simpa using h
    simp [List.filter, h']
theorem Good.drop {js : List Job} (hl : ∀ k, k < js.length → 1 ≤ lng js k) {mw : Bool} {st : Stk} {now : Int} {c : Pth} (g : Good js mw (st ++ [(now, c)])) (hno : ¬ ∀ k ∈ leftS js.length (dn c), fits js now k = true) : Good js mw st := by
  refine ⟨fun e he => g.sound e (List.mem_append_left _ he), fun c2 h2 => ?_⟩
  obtain ⟨e, he, r, er⟩ := g.all c2 h2
  rcases List.mem_append.mp he with he | he
  · exact ⟨e, he, r, er⟩
  · have : e = (now, c) := by simpa using he
    subst this
    obtain ⟨n2, w2, p2, l2, _⟩ := h2
    obtain ⟨w, p, _⟩ := g.sound (now, c) (by simp)
    refine absurd (fun k hk => ?_) hno
    rw [er] at p2 l2
    exact prune hl p p2 l2 hk
theorem Good.push {js : List Job} (hl : ∀ k, k < js.length → 1 ≤ lng js k) {mw : Bool} {st : Stk} {now : Int} {c : Pth} (g : Good js mw (st ++ [(now, c)])) (hc : c.length ≠ js.length) (hyes : ∀ k ∈ leftS js.length (dn c), fits js now k = true) :
    Good js mw (st ++ kids js mw now c (leftS js.length (dn c))) := by
  obtain ⟨w, p, hw⟩ := g.sound (now, c) (by simp)
  refine ⟨fun e he => ?_, fun c2 h2 => ?_⟩
  · rcases List.mem_append.mp he with he | he
    · exact g.sound e (List.mem_append_left _ he)
    · obtain ⟨k, hk, e1⟩ := List.mem_map.mp he
      obtain ⟨k1, k2⟩ := List.mem_filter.mp hk
      subst e1
      refine ⟨_, .snoc p k1 (hyes k k1), ?_⟩
      rcases hw with z | z
      · exact .inl z
      · cases mw with
        | true => exact .inl rfl
        | false =>
          have k3 : stt js now k = lst js now (dn c) := by simpa using k2
          right
          rw [z, k3]
          simp
  · obtain ⟨e, he, r, er⟩ := g.all c2 h2
    rcases List.mem_append.mp he with he | he
    · exact ⟨e, List.mem_append_left _ he, r, er⟩
    · have : e = (now, c) := by simpa using he
      subst this
      obtain ⟨n2, w2, p2, l2, z2⟩ := h2
      rw [er] at p2 l2
      have hcl : c.length < js.length := by
        have q : c.length ≤ js.length := p.len
        omega
      obtain ⟨k, r', k1, k2, k3, k4⟩ := goOn hl p p2 l2 z2 hcl
      refine ⟨(stt js now k + lng js k, c ++ [(k, stt js now k)]), List.mem_append_right _ (List.mem_map.mpr ⟨k, List.mem_filter.mpr ⟨k1, ?_⟩, rfl⟩), r', ?_⟩
      · rcases k3 with z | z <;> simp [z]
      · rw [er, k4]; simp
theorem leftS_len {js : List Job} {c : Pth} {now : Int} {w : Bool} (p : Path js c now w) : (leftS js.length (dn c)).length ≤ js.length - c.length := by
  have h1 := p.nodup
  have e : (leftS js.length (dn c) ++ dn c).Nodup := by
    refine List.nodup_append.mpr ⟨List.Pairwise.filter _ List.nodup_range, h1.1, fun a ha b hb e => ?_⟩
    subst e
    exact (mem_leftS.mp ha).2 hb
  have := nodup_le e (n := js.length) fun k hk => by
    rcases List.mem_append.mp hk with z | z
    · exact (mem_leftS.mp z).1
    · exact h1.2 k z
  simp only [List.length_append, List.length_map] at this
  omega
theorem meas_push {js : List Job} {mw : Bool} {st : Stk} {now : Int} {c : Pth} {w : Bool} (p : Path js c now w) (hc : c.length ≠ js.length) :
    meas js.length (st ++ kids js mw now c (leftS js.length (dn c))) < meas js.length (st ++ [(now, c)]) := by
  have hl := p.len
  rw [meas_append, meas_append]
  refine Nat.add_lt_add_left ?_ _
  have h1 : ∀ e ∈ kids js mw now c (leftS js.length (dn c)), wt (js.length - e.2.length) = wt (js.length - c.length - 1) := by
    intro e he
    obtain ⟨k, _, rfl⟩ := List.mem_map.mp he
    simp only [List.length_append, List.length_singleton, Nat.sub_sub]
  have h2 : (kids js mw now c (leftS js.length (dn c))).length ≤ js.length - c.length := by
    unfold kids
    rw [List.length_map]
    exact Nat.le_trans (List.length_filter_le _ _) (leftS_len p)
  have h3 : meas js.length (kids js mw now c (leftS js.length (dn c))) = (kids js mw now c (leftS js.length (dn c))).length * wt (js.length - c.length - 1) := by
    unfold meas
    generalize kids js mw now c (leftS js.length (dn c)) = l at h1
    induction l with
    | nil => simp
    | cons x l ih =>
      rw [List.map_cons, List.sum_cons, ih fun e he => h1 e (List.mem_cons_of_mem _ he), h1 x List.mem_cons_self, List.length_cons, Nat.add_mul, Nat.one_mul, Nat.add_comm]
  have h4 : meas js.length [(now, c)] = wt (js.length - c.length) := by simp [meas]
  rw [h3, h4]
  obtain ⟨r, hr⟩ : ∃ r, js.length - c.length = r + 1 := ⟨js.length - c.length - 1, by omega⟩
  rw [hr] at h2 ⊢
  show _ * wt (r + 1 - 1) < (r + 1) * wt r + 1
  rw [Nat.add_sub_cancel]
  exact Nat.lt_succ_of_le (Nat.mul_le_mul_right _ h2)
theorem meas_drop {js : List Job} {st : Stk} {e : Int × Pth} : meas js.length st < meas js.length (st ++ [e]) := by
  rw [meas_append]
  have : meas js.length [e] = wt (js.length - e.2.length) := by simp [meas]
  have := wt_pos (js.length - e.2.length)
  omega


/-! ### the starts, by the jobs' numbers -/
theorem perm_sorted_eq {l m : List Nat} (p : l.Perm m) (h1 : l.Pairwise (· ≤ ·)) (h2 : m.Pairwise (· ≤ ·)) : l = m :=
  p.eq_of_pairwise (fun _ _ _ _ a b => Nat.le_antisymm a b) h1 h2
theorem range_sorted (n : Nat) : (List.range n).Pairwise (· ≤ ·) := (List.pairwise_lt_range (n := n)).imp fun h => Nat.le_of_lt h
/-- the row of starts that a full path gives -/
def RowOf (js : List Job) (c : Pth) (vs : List Int) : Prop := vs.length = js.length ∧ ∀ q ∈ c, vs[q.1]? = some q.2
theorem rowOf_sorted {α : Type} {js : List Job} {c : Pth} {bs ss : List (α × Nat × Int)} (hb : bs.map Prod.snd = c) (hp : ss.Perm bs) (hs : ss.Pairwise fun p q => p.2.1 ≤ q.2.1) (hc : (dn c).Perm (List.range js.length)) : RowOf js c (ss.map fun b => b.2.2) := by
  have e : ss.map (fun b => b.2.1) = List.range js.length := by
    refine perm_sorted_eq ?_ (List.pairwise_map.mpr hs) (range_sorted _)
    refine List.Perm.trans ?_ hc
    have := hp.map fun b => b.2.1
    refine this.trans ?_
    rw [← hb]
    unfold dn
    rw [List.map_map]
    exact List.Perm.refl _
  have el : ss.length = js.length := by
    have := congrArg List.length e
    simpa using this
  refine ⟨by rw [List.length_map]; exact el, fun q hq => ?_⟩
  rw [← hb] at hq
  obtain ⟨b, hb1, rfl⟩ := List.mem_map.mp hq
  have hm := hp.mem_iff.mpr hb1
  obtain ⟨i, hi, ei⟩ := List.getElem_of_mem hm
  have e1 : (ss.map fun b => b.2.1)[i]? = some b.2.1 := by
    rw [List.getElem?_map, List.getElem?_eq_getElem hi, ei]; rfl
  rw [e] at e1
  have e2 : i = b.2.1 := by
    have := List.getElem?_range (n := js.length) (i := i) (by omega)
    rw [this] at e1
    exact Option.some.inj e1
  rw [← e2, List.getElem?_map, List.getElem?_eq_getElem hi, ei]
  rfl
end K23
/-! Generator expressions over lists, tuples and ranges, given to all and min. -/
namespace K23
open PySem PySem.Spec PyProof.Rows L2

section
variable {X : Cx} {P : Addr} {s1 : Shared} {scope : Scope} {cenv : Env} {m : Str → Option Value} {A' : Around}

/-- where a generator expression's element is evaluated: its own frame, the maker's cells, and all that stood as it began but the table -/
structure GAt (X : Cx) (P : Addr) (s1 : Shared) (scope : Scope) (cenv : Env) (m : Str → Option Value) (s : Shared) : Prop where
  sco : cenv.scope = scope
  kind : scope.kind = .function
  glob : cenv.globals = mainGlobals
  blt : cenv.builtins = builtinsNs
  cells : cenv.cells = cloFrom X.env.cells scope.names []
  ns : s.heap.Ns cenv.locals m
  keep : ∀ b o, b ≠ P → s1.heap.get? b = some o → s.heap.get? b = some o
theorem GAt.then {s s' : Shared} (g : GAt X P s1 scope cenv m s) (k : Keeps s s') : GAt X P s1 scope cenv m s' := by
  obtain ⟨h', tk, rfl, kk⟩ := k
  exact ⟨g.sco, g.kind, g.glob, g.blt, g.cells, g.ns.keeps kk, fun b o hb e => kk b o (g.keep b o hb e)⟩
theorem keeps_self (s : Shared) : Keeps s s := ⟨s.heap, s.toks, rfl, fun _ _ e => e⟩
theorem keeps_more (s : Shared) (tk : Nat) : Keeps s { s with toks := tk } := ⟨s.heap, tk, rfl, fun _ _ e => e⟩
theorem keeps_then {s s' s'' : Shared} (a : Keeps s s') (b : Keeps s' s'') : Keeps s s'' := by
  obtain ⟨h', tk, rfl, k1⟩ := a
  obtain ⟨h'', tk', rfl, k2⟩ := b
  exact ⟨h'', tk', rfl, fun b o e => k2 b o (k1 b o e)⟩

/-- e, there, gives a value of which R is true, and changes nothing that stands -/
def GE (X : Cx) (P : Addr) (s1 : Shared) (scope : Scope) (cenv : Env) (m : Str → Option Value) (A' : Around) (e : Expr) (R : Value → Prop) : Prop :=
  ∀ (E' : Value → Shared → Prop) (s : Shared), GAt X P s1 scope cenv m s → wpAny (model X.prog X.w) A' (eval e cenv) (fun y s3 => R y ∧ Keeps s s3) E' s

def IsI (i : Int) : Value → Prop := fun v => ∃ t, v = .int i t
def IsB (b : Bool) : Value → Prop := fun v => v = .bool b

theorem ge_loc {x : Str} {pos : Pos} {v : Value} {R : Value → Prop} (hl : scope.names.lookup x = some .local) (hm : m x = some v) (hR : R v) (hd : (x == ("__debug__" : Str)) = false := by decide) : GE X P s1 scope cenv m A' (.Name x pos) R := by
  intro E' s g
  have hk : cenv.scope.kind = .function := by rw [g.sco]; exact g.kind
  have hl' : cenv.kindOf x = some .local := by
    show cenv.scope.names.lookup x = _
    rw [g.sco]; exact hl
  exact wpAny_Name (wpAny_loadName_local hk hl' g.ns hm ⟨hR, keeps_self s⟩) hd
theorem ge_int {i : Int} {j : Nat} {pos : Pos} : GE X P s1 scope cenv m A' (.Constant (.int i) j pos) (IsI i) :=
  fun E' s g => wpAny_Constant_int ⟨⟨_, rfl⟩, keeps_more s _⟩

variable {pins : List (Addr × Obj)} {σ : L2.St} {H1 : Hp}
/-- a name of the def around -/
theorem ge_free {i : Nat} {x : Str} {pos : Pos} {v : V} {R : Value → Prop} (I : Inv X pins σ H1 s1) (hP : ∃ ps, s1.heap.get? P = some { cls := .none, data := .fields ps }) (hN : X.N[i]? = some x) (hσ : σ[i]? = some (some v))
    (hl : scope.names.lookup x = some .free) (hx : X.env.scope.names.lookup x = some .cell) (hfree : ∀ y ∈ scope.names, y.2 = .free → ∃ c, X.env.cells.lookup y.1 = some c) (hR : ∀ u, RelV v u → R u)
    (hd : (x == ("__debug__" : Str)) = false := by decide) (hcd : (x == ("__classdict__" : Str)) = false := by decide) : GE X P s1 scope cenv m A' (.Name x pos) R := by
  intro E' s g
  have hk : cenv.scope.kind = .function := by rw [g.sco]; exact g.kind
  have hl' : cenv.kindOf x = some .free := by
    show cenv.scope.names.lookup x = _
    rw [g.sco]; exact hl
  obtain ⟨mm, hn, hloc⟩ := I.loc
  obtain ⟨u, ru, l⟩ := hloc i x v hN hσ (.inr (.inl hx))
  rcases l with ⟨hk2, _⟩ | ⟨_, c, hc, o, ho, hdat⟩
  · have z : X.env.scope.names.lookup x = some .local := hk2
    rw [hx] at z; cases z
  · have hcP : c ≠ P := by
      rintro rfl
      obtain ⟨ps, e⟩ := hP
      rw [e] at ho; cases ho; cases hdat
    have hc' : cenv.cells.lookup x = some c := by
      rw [g.cells]
      exact NdefX.clo_has hfree (PySem.mem_of_lookup hl) hc
    exact wpAny_Name (wpAny_loadName_free hk hl' hc' ⟨o, g.keep c o hcP ho, hdat⟩ ⟨hR u ru, keeps_self s⟩ hcd) hd
/-- an item of a tuple -/
theorem ge_item {a b : Expr} {pos : Pos} {p : Addr} {xs : List V} {i : Int} {v : V} {R : Value → Prop} (I : Inv X pins σ H1 s1) (hP : ∃ ps, s1.heap.get? P = some { cls := .none, data := .fields ps })
    (ha : GE X P s1 scope cenv m A' a (fun u => u = .ref p)) (hb : GE X P s1 scope cenv m A' b (IsI i)) (ht : SqT X.K H1 p xs) (hi : atI xs i = some v) (hR : ∀ u, RelV v u → R u) (hs : PlainIx b) : GE X P s1 scope cenv m A' (.Subscript a b pos) R := by
  intro E' s g
  refine Subscript_ (wpAny_mono (ha E' s g) (fun y s2 q => ?_) fun _ _ e => e)
  obtain ⟨rfl, k2⟩ := q
  refine wpAny_mono (hb E' s2 (g.then k2)) (fun z s3 q => ?_) fun _ _ e => e
  obtain ⟨⟨t, rfl⟩, k3⟩ := q
  have g3 := (g.then k2).then k3
  obtain ⟨its, r, pl, hz⟩ := I.tuple ht
  obtain ⟨j, h1, h2, h3, h4, h5⟩ := atI_get hi
  obtain ⟨w, ew, rw'⟩ := r.get h2
  have hl := r.length
  have hn := line63
  obtain ⟨o, ho, hcl, n, hdat⟩ := id pl
  have hpP : p ≠ P := by
    rintro rfl
    obtain ⟨ps, e⟩ := hP
    rw [e] at ho; cases ho; cases hcl
  have pl3 : IsTup s3.heap p its.toArray := ⟨o, g3.keep p o hpP ho, hcl, n, hdat⟩
  exact subscriptTail_builtinR (x := w) pl3.typeIs slot_tuple_getitem.lookup
    (getItem_tuple (j := j) (Q := fun r s' => r = w ∧ R r ∧ Keeps s s') pl3 (by omega) (by omega) (by rw [List.size_toArray, ← hl]; exact h1) (by simpa using ew) ⟨rfl, hR w rw', keeps_then k2 k3⟩) (hs _ _)
/-- .. of a list -/
theorem ge_itemL {a b : Expr} {pos : Pos} {p : Addr} {xs : List V} {i : Nat} {v : V} {R : Value → Prop} (I : Inv X pins σ H1 s1) (hP : ∃ ps, s1.heap.get? P = some { cls := .none, data := .fields ps })
    (ha : GE X P s1 scope cenv m A' a (fun u => u = .ref p)) (hb : GE X P s1 scope cenv m A' b (IsI i)) (ht : SqL X.K H1 p xs) (hi : xs[i]? = some v) (hR : ∀ u, RelV v u → R u) (hs : PlainIx b) : GE X P s1 scope cenv m A' (.Subscript a b pos) R := by
  intro E' s g
  refine Subscript_ (wpAny_mono (ha E' s g) (fun y s2 q => ?_) fun _ _ e => e)
  obtain ⟨rfl, k2⟩ := q
  refine wpAny_mono (hb E' s2 (g.then k2)) (fun z s3 q => ?_) fun _ _ e => e
  obtain ⟨⟨t, rfl⟩, k3⟩ := q
  have g3 := (g.then k2).then k3
  obtain ⟨its, r, pl, hz⟩ := I.list ht
  obtain ⟨w, ew, rw'⟩ := r.get hi
  have hil : i < xs.length := (List.getElem?_eq_some_iff.mp hi).1
  have hl := r.length
  have hn := line63
  obtain ⟨o, n, ho, hcl, hdict, hdat⟩ := id pl
  have hpP : p ≠ P := by
    rintro rfl
    obtain ⟨ps, e⟩ := hP
    rw [e] at ho; cases ho; cases hcl
  have pl3 : PlainL s3.heap p its.toArray := ⟨o, n, g3.keep p o hpP ho, hcl, hdict, hdat⟩
  exact item_listR (Q := fun r s' => R r ∧ Keeps s s') pl3.isList (Int.natCast_nonneg i) (by omega) (by simpa using ew) ⟨hR w rw', keeps_then k2 k3⟩ (hs _ _)
theorem ge_add {a b : Expr} {pos : Pos} {i j : Int} (ha : GE X P s1 scope cenv m A' a (IsI i)) (hb : GE X P s1 scope cenv m A' b (IsI j)) : GE X P s1 scope cenv m A' (.BinOp a .Add b pos) (IsI (i + j)) := by
  intro E' s g
  refine wpAny_BinOp (wpAny_mono (ha E' s g) (fun y s2 q => ?_) fun _ _ e => e)
  obtain ⟨⟨t, rfl⟩, k2⟩ := q
  refine wpAny_mono (hb E' s2 (g.then k2)) (fun z s3 q => ?_) fun _ _ e => e
  obtain ⟨⟨t', rfl⟩, k3⟩ := q
  exact add_int ⟨⟨_, rfl⟩, keeps_then (keeps_then k2 k3) (keeps_more s3 _)⟩
theorem ge_le {a b : Expr} {pos : Pos} {i j : Int} (ha : GE X P s1 scope cenv m A' a (IsI i)) (hb : GE X P s1 scope cenv m A' b (IsI j)) : GE X P s1 scope cenv m A' (.Compare a [.LtE] [b] pos) (IsB (decide (i ≤ j))) := by
  intro E' s g
  refine wpAny_Compare1 (wpAny_mono (ha E' s g) (fun y s2 q => ?_) fun _ _ e => e) (nomark _)
  obtain ⟨⟨t, rfl⟩, k2⟩ := q
  refine wpAny_mono (hb E' s2 (g.then k2)) (fun z s3 q => ?_) fun _ _ e => e
  obtain ⟨⟨t', rfl⟩, k3⟩ := q
  exact le_int ⟨rfl, keeps_then k2 k3⟩
/-- a built-in's name -/
theorem ge_blt {x : Str} {pos : Pos} {u : Value} {E' : Value → Shared → Prop} {s : Shared} {Q : Value → Shared → Prop} (I : Inv X pins σ H1 s1) (hP : H1 P ≠ none) (g : GAt X P s1 scope cenv m s) (hg : scope.names.lookup x = some .globalImplicit) (hm : X.mg x = none)
    (hv : bootBuiltins x = some u) (h : Q u s) (hn : x ≠ "__name__" := by decide) (hd : (x == ("__debug__" : Str)) = false := by decide) : wpAny (model X.prog X.w) A' (eval (.Name x pos) cenv) Q E' s := by
  have hk : cenv.scope.kind = .function := by rw [g.sco]; exact g.kind
  have hl' : cenv.kindOf x = some .globalImplicit := by
    show cenv.scope.names.lookup x = _
    rw [g.sco]; exact hg
  have bk : ∀ b o, X.base.get? b = some o → s.heap.get? b = some o := fun b o e => g.keep b o (fun z => by
    subst z
    exact hP (I.bs b o e).2) (I.bk b o e)
  obtain ⟨mb, h1, h2⟩ := I.mod.blt
  exact Calls.Name_function_global hk hl' (Calls.loadGlobal_builtin (by rw [g.glob]; exact I.mod.glob.keeps bk) hm (by rw [g.blt]; exact h1.keeps bk) ((h2 x hn).trans hv) h) hd
/-- max(a, b) -/
theorem ge_max {a b : Expr} {p pos : Pos} {i j : Int} (I : Inv X pins σ H1 s1) (hP : H1 P ≠ none) (hA : A'.handled = none) (hg : scope.names.lookup (Str.ofString "max") = some .globalImplicit) (hm : X.mg "max" = none)
    (ha : GE X P s1 scope cenv m A' a (IsI i)) (hb : GE X P s1 scope cenv m A' b (IsI j))
    (he : starEach [a, b] cenv = (false, eval a cenv) :: starEach [b] cenv := by rfl) (he2 : starEach [b] cenv = (false, eval b cenv) :: starEach [] cenv := by rfl) (hpl : (backTo pos (starEach [b] cenv)).any (·.1) = false := by rfl) :
    GE X P s1 scope cenv m A' (.Call (.Name "max" p) [a, b] [] pos) (IsI (if j > i then j else i)) := by
  intro E' s g
  refine wpAny_Call_Name_kw (ge_blt I hP g hg hm (u := .builtin "max") (by decide +kernel) ?_)
  refine PyProof.Rows.callWith_builtin1 ?_ he hpl
  rw [he]
  refine Calls.spliced_cons (wpAny_mono (ha E' s g) (fun y s2 q => ?_) fun _ _ e => e)
  obtain ⟨⟨t, rfl⟩, k2⟩ := q
  rw [he2]
  refine Calls.spliced_cons (wpAny_mono (hb E' s2 (g.then k2)) (fun z s3 q => ?_) fun _ _ e => e)
  obtain ⟨⟨t', rfl⟩, k3⟩ := q
  refine Calls.spliced_nil ?_
  refine max_two_ints hA fun h' tk hk => ⟨?_, keeps_then (keeps_then k2 k3) ⟨h', tk, rfl, hk⟩⟩
  by_cases hj : j > i
  · rw [if_pos hj, if_pos hj]; exact ⟨_, rfl⟩
  · rw [if_neg hj, if_neg hj]; exact ⟨_, rfl⟩
/-- isinstance(x, T), x a name of the generator's own -/
theorem ge_isi {x : Str} {T : String} {b : Bool} {u t : Value} {p p1 p2 pos : Pos} (I : Inv X pins σ H1 s1) (hP : H1 P ≠ none) (hgi : scope.names.lookup (Str.ofString "isinstance") = some .globalImplicit) (hmi : X.mg "isinstance" = none) {c : Str}
    (hgc : scope.names.lookup c = some .globalImplicit) (hmc : X.mg c = none) (hvc : bootBuiltins c = some (.type T)) (hl : scope.names.lookup x = some .local) (hm : m x = some u)
    (ru : ∃ (Z : Heap → Prop), PySem.W.KitX X.K u t Z ∧ (∀ s, GAt X P s1 scope cenv m s → Z s.heap) ∧ u ≠ .builtin "__main__.__loader__#opaque") (kt : PySem.W.kitOne X.K t (.type T) = some b)
    (hd : (x == ("__debug__" : Str)) = false := by decide) (hcn : c ≠ "__name__" := by decide) (hcd : (c == ("__debug__" : Str)) = false := by decide) :
    GE X P s1 scope cenv m A' (.Call (.Name "isinstance" p) [.Name x p1, .Name c p2] [] pos) (IsB b) := by
  intro E' s g
  obtain ⟨Z, kz, hz, hu⟩ := ru
  have bk : ∀ b o, X.base.get? b = some o → s.heap.get? b = some o := fun b o e => g.keep b o (fun z => by
    subst z
    exact hP (I.bs b o e).2) (I.bk b o e)
  refine wpAny_Call_Name_kw (ge_blt I hP g hgi hmi (u := .builtin "isinstance") (by decide +kernel) ?_)
  refine PyProof.Rows.callWith_builtin1 ?_ rfl rfl
  refine Calls.spliced_cons (wpAny_mono (ge_loc (R := fun y => y = u) hl hm rfl hd E' s g) (fun y s2 q => ?_) fun _ _ e => e)
  obtain ⟨rfl, k2⟩ := q
  have g2 := g.then k2
  refine Calls.spliced_cons (ge_blt I hP g2 hgc hmc hvc ?_ hcn hcd)
  refine Calls.spliced_nil ?_
  have kin : X.K.In s2.heap := I.mod.kin.keeps fun b o e => g2.keep b o (fun z => by
    subst z
    exact hP (I.bs b o e).2) (I.bk b o e)
  exact PySem.W.kia_one kz kin (hz s2 g2) kt hu fun tk => ⟨rfl, keeps_then k2 (keeps_more s2 tk)⟩
/-- a and b, both of them True or False -/
theorem ge_and {a b : Expr} {pos : Pos} {x y : Bool} (ha : GE X P s1 scope cenv m A' a (IsB x)) (hb : x = true → GE X P s1 scope cenv m A' b (IsB y)) (hxy : x = false → y = false) : GE X P s1 scope cenv m A' (.BoolOp .And [a, b] pos) (IsB (x && y)) := by
  intro E' s g
  refine BoolOp_and (wpAny_mono (ha E' s g) (fun v s2 q => ?_) fun _ _ e => e)
  obtain ⟨rfl, k2⟩ := q
  refine wpAny_truthy_bool ?_
  cases x with
  | true =>
    refine BoolOp_one (wpAny_mono (hb rfl E' s2 (g.then k2)) (fun v s3 q => ?_) fun _ _ e => e)
    obtain ⟨rfl, k3⟩ := q
    exact ⟨rfl, keeps_then k2 k3⟩
  | false => exact ⟨rfl, k2⟩
theorem ge_not {a : Expr} {pos : Pos} {x : Bool} (ha : GE X P s1 scope cenv m A' a (IsB x)) : GE X P s1 scope cenv m A' (.UnaryOp .Not a pos) (IsB (!x)) := by
  intro E' s g
  refine UnaryOp_ (wpAny_mono (ha E' s g) (fun v s2 q => ?_) fun _ _ e => e)
  obtain ⟨rfl, k2⟩ := q
  exact not_of (wpAny_truthy_bool ⟨rfl, k2⟩)
end

/-! ### the generator made -/
section
variable {X : Cx} {pins : List (Addr × Obj)} {σ : L2.St} {H : Hp} {s : Shared}
/-- the walked thing's iterator has come: what was there stands as in s1 -/
structure Src (X : Cx) (pins : List (Addr × Obj)) (σ : L2.St) (P : Addr) (s1 : Shared) (H1 : Hp) (n : Nat) (Pi : Nat → Value → Prop) (it : Value) (s2 : Shared) : Prop where
  inv : Inv X pins σ H1 s1
  eq : ∃ h2 tk2, s2 = { s1 with heap := h2, toks := tk2 } ∧ ∀ b o, s1.heap.get? b = some o → h2.get? b = some o
  walk : ∃ (I : Addr) (fp : List Addr) (St : Nat → Heap → Prop), it = .ref I ∧ s1.heap.objs.size ≤ I ∧ (∀ A' : Around, A'.handled = none → Walks X.prog X.w A' I fp [I] n Pi St) ∧ St 0 s2.heap ∧ (∀ b ∈ fp, b < s2.heap.objs.size) ∧ P ∉ fp
/-- the element is told, whatever the generator's own frame -/
def EltOk (X : Cx) (P : Addr) (s1 : Shared) (scope : Scope) (x : Str) (elt : Expr) (n : Nat) (Pi : Nat → Value → Prop) (F : Nat → Value → Prop) : Prop :=
  ∀ (cenv : Env) (A' : Around) (i : Nat) (v : Value) (m : Str → Option Value), A'.handled = none → Pi i v → m x = some v → GE X P s1 scope cenv m A' elt (F i)
/-- the generator g, ready to be walked -/
def Rdy (X : Cx) (pins : List (Addr × Obj)) (σ : L2.St) (H1 : Hp) (P : Addr) (n : Nat) (F : Nat → Value → Prop) (g : Addr) (s5 : Shared) : Prop :=
  ∃ (fp wr : List Addr) (G : Array GenState → Array GenState → Prop) (St : Nat → Shared → Prop), WalksS X.prog X.w X.A.in1 g fp wr G n F St ∧ St 0 s5 ∧ (∀ b ∈ fp, b < s5.heap.objs.size) ∧
    ∀ s', Moved wr G s5 s' → ∃ H2, GxR.Tabbed P H1 H2 ∧ Inv X pins σ H2 s'

theorem gen_core {c P : Addr} {elt iter : Expr} {x : Str} {px gpos : Pos} {scope : Scope} {k : Nat} {Q' : Value → Shared → Prop} {E : Value → Shared → Prop}
    (hr : Room k X.A) (TB : GxR.TabB X.base X.mg c P) (hcode : X.env.code = .ref c) (S : GxR.GenS X.env scope x) (hs : ∀ v, genFold iter X.env v = pure v)
    (h : wpAny (model X.prog X.w) X.A (eval iter X.env) (fun xv s₁ => wpAny (model X.prog X.w) X.A (pyIter xv) (fun it s₂ => ∃ s1 H1 n Pi F, Src X pins σ P s1 H1 n Pi it s₂ ∧ GxR.TabG H1 P ∧ EltOk X P s1 scope x elt n Pi F ∧
      ∀ g s5, Rdy X pins σ H1 P n F g s5 → Q' (.ref g) s5) E s₁) E s) :
    wpAny (model X.prog X.w) X.A (eval (.GeneratorExp elt [⟨.Name x px, iter, [], 0⟩] scope gpos) X.env) Q' E s := by
  refine wpAny_GeneratorExp_walksQ hr.hd S.co (closure_ok S.free) S.cell S.dot S.loc S.kind (by have := hr.dp; omega) (wpAny_mono h (fun xv s₁ h₁ => wpAny_mono h₁ (fun it s₂ h₂ => ?_) fun _ _ e => e) fun _ _ e => e) hs
  obtain ⟨s1, H1, n, Pi, F, src, ⟨ps, hP, ht⟩, hel, hQ⟩ := h₂
  obtain ⟨I1, ⟨h2, tk2, rfl, k12⟩, Ia, fp, St, rfl, hIa, W, hst, hfp, hPf⟩ := src
  have hPs : s1.heap.get? P = some { cls := .none, data := .fields ps } := I1.hok P _ hP
  have hPlt : P < s1.heap.objs.size := Heap.lt_size hPs
  have hP2 : h2.get? P = some { cls := .none, data := .fields ps } := k12 _ _ hPs
  have hne : H1 P ≠ none := by rw [hP]; simp
  have cd : PySem.W.CodeHd h2 c P := TB.code.keeps fun b u e => k12 _ _ (I1.bk b u e)
  have lim2 : h2.NoLimit := I1.nolimit.keeps k12
  have hsz12 : s1.heap.objs.size ≤ h2.objs.size := by
    rcases Nat.lt_or_ge h2.objs.size s1.heap.objs.size with z | z
    · have e1 : ∃ o, s1.heap.get? h2.objs.size = some o ∨ s1.heap.get? h2.objs.size = none := by
        cases e : s1.heap.get? h2.objs.size with
        | none => exact ⟨{ cls := .none, data := .plain }, .inr rfl⟩
        | some o => exact ⟨o, .inl rfl⟩
      have hIlt : Ia < h2.objs.size := hfp Ia ((W X.A hr.hd).sub Ia (by simp))
      exact absurd (Nat.lt_of_lt_of_le hIlt (Nat.le_trans (Nat.le_of_lt z) hIa)) (Nat.lt_irrefl _)
    · exact z
  refine ⟨lim2, ?_⟩
  have cont : ∀ (code : Value) (h3 : Heap) (tk : Nat) (ps' : Array Value), Heap.ExtBut P h2 h3 → h2.objs.size ≤ h3.objs.size → h3.get? P = some { cls := .none, data := .fields ps' } → (∃ more, ps' = ps ++ more) → TriplesOk ps'.toList →
      wpAny (model X.prog X.w) X.A (builtinsFor X.env.globals X.env.builtins) (fun bi s₄ =>
        ∃ Ib fq wr n₀ Pf St₀ pz F', Value.ref Ia = .ref Ib ∧ (∀ A' : Around, A'.handled = none → Walks X.prog X.w A' Ib fq wr n₀ Pf St₀) ∧ St₀ 0 s₄.heap ∧ (∀ b ∈ fq, b < s₄.heap.objs.size) ∧ s₄.heap.NoLimit ∧ cStatics ∉ wr ∧
          (∀ href : Heap, (∀ b o, s₄.heap.get? b = some o → href.get? b = some o) →
            QuietGen X.prog X.w (genEnv scope (cloFrom X.env.cells scope.names []) s₄.heap.objs.size code bi X.env) x [] elt (List.range s₄.heap.objs.size) wr Pf pz F' href) ∧
          (∀ a h₅ tk gs, gs.bare = true → s₄.heap.objs.size < a → h₅.objs.size = a + 1 → (∀ b o, s₄.heap.get? b = some o → h₅.get? b = some o) →
            WalksS X.prog X.w X.A.in4 a (a :: s₄.heap.objs.size :: List.range s₄.heap.objs.size) (s₄.heap.objs.size :: wr) (GenOnlyQ s₄.gens.size) (passing pz n₀ 0).length
              (fun j y => ∃ i, (passing pz n₀ 0)[j]? = some i ∧ F' i y) (GenAt X.prog X.w X.A.in4 a s₄.gens.size s₄.heap.objs.size (List.range s₄.heap.objs.size) wr pz n₀ F') →
            GenAt X.prog X.w X.A.in4 a s₄.gens.size s₄.heap.objs.size (List.range s₄.heap.objs.size) wr pz n₀ F' 0 { s₄ with gens := s₄.gens.push gs, toks := tk, heap := h₅ } →
            Q' (.ref a) { s₄ with gens := s₄.gens.push gs, toks := tk, heap := h₅ })) E { s1 with heap := h3, toks := tk } := by
    intro code h3 tk ps' hx hsz hP3 hmore ht3
    obtain ⟨bm, ob, e1, e2, e3, e4, e5, e6, e7, e8⟩ := TB.bm
    have hcP : cStatics ≠ P := fun e => by
      obtain ⟨_, hns, _⟩ := I1.nolimit
      obtain ⟨o', es, ep, ho, hd, _⟩ := hns
      rw [e, hPs] at ho
      cases ho
      cases hd
    have hcl : cStatics < s1.heap.objs.size := let ⟨_, hns, _⟩ := I1.nolimit; hns.lt
    have keep3 : ∀ b u, b ≠ P → s1.heap.get? b = some u → h3.get? b = some u := fun b u hb e => hx b u hb (k12 _ _ e)
    have nsG : h3.Ns mainGlobals X.mg := ((I1.mod.glob.keeps I1.bk).keeps k12).extBut hx TB.gP
    have bs3 : ∀ b o, X.base.get? b = some o → h3.get? b = some o := fun b o e => keep3 b o (fun z => by
      subst z
      exact hne (I1.bs b o e).2) (I1.bk b o e)
    refine wpAny_builtinsFor (m := X.mg) (by rw [I1.ok.glob]; exact nsG) e1 e2 (keep3 _ _ e4 (I1.bk _ _ e5)) e6 e7 e8 ?_
    refine ⟨Ia, fp, [Ia], n, Pi, St, (fun _ => true), F, rfl, W, ?_, ?_, lim2.extBut hx hcP, ?_, ?_, ?_⟩
    · exact (W X.A hr.hd).frame _ _ _ hst fun b hb u e => hx b u (fun z => hPf (z ▸ hb)) e
    · exact fun b hb => Nat.lt_of_lt_of_le (hfp b hb) hsz
    · intro z
      have z' : cStatics = Ia := by simpa using z
      rw [z'] at hcl
      exact Nat.lt_irrefl _ (Nat.lt_of_lt_of_le hcl hIa)
    · intro href hhref
      refine ⟨fun A' E' i v s₂ m₂ hA hPv hn hm hk => ?_, fun A' E' i v s₂ m₂ hA hPv hp hn hm hk => ?_⟩
      · simp only [List.forIn_nil]
        exact wpAny_pure ⟨rfl, keeps_self _⟩
      · refine hel _ A' i v m₂ hA hPv hm E' s₂ ⟨rfl, S.kind, I1.ok.glob, rfl, rfl, hn, fun b o hb e => ?_⟩
        have hl := Heap.lt_size e
        refine hk b (List.mem_range.mpr (Nat.lt_of_lt_of_le hl (Nat.le_trans hsz12 hsz))) (fun z => ?_) o (hhref b o (keep3 b o hb e))
        have z' : b = Ia := by simpa using z
        rw [z'] at hl
        exact Nat.lt_irrefl _ (Nat.lt_of_lt_of_le hl hIa)
    · intro g h5 tk5 gs hgb hag hsz5 hk5 W5 hat
      simp only [GxR.passing_true, List.length_range] at W5
      have hag' : h3.objs.size < g := hag
      have W5' := W5.in4_1
      refine hQ g _ ⟨_, _, _, _, ⟨W5'.sub, W5'.grefl, W5'.gtrans, W5'.frame, fun i s Q E hi st hq => W5'.item i s Q E hi st fun v s' hv st' mv => hq v s' ?_ st' mv, W5'.done, W5'.self⟩, hat, ?_, fun s' hm => ?_⟩
      · obtain ⟨i', hi', hF⟩ := hv
        obtain ⟨hj, ej⟩ := List.getElem?_eq_some_iff.mp hi'
        rw [List.getElem_range] at ej
        subst ej
        exact hF
      · intro b hb
        show b < h5.objs.size
        rw [hsz5]
        rcases List.mem_cons.mp hb with z | hb
        · rw [z]; exact Nat.lt_succ_self _
        · rcases List.mem_cons.mp hb with z | hb
          · rw [z]; exact Nat.lt_succ_of_lt hag
          · exact Nat.lt_succ_of_lt (Nat.lt_trans (List.mem_range.mp hb) hag)
      · obtain ⟨more, em⟩ := hmore
        have nwr : ∀ b u, s1.heap.get? b = some u → b ∉ h3.objs.size :: [Ia] := fun b u e hb => by
          have hl := Heap.lt_size e
          rcases List.mem_cons.mp hb with z | z
          · rw [z] at hl
            exact Nat.lt_irrefl _ (Nat.lt_of_lt_of_le hl (Nat.le_trans hsz12 hsz))
          · have z' : b = Ia := by simpa using z
            rw [z'] at hl
            exact Nat.lt_irrefl _ (Nat.lt_of_lt_of_le hl hIa)
        have J := GxR.inv_tab (more := more) (h' := s'.heap) (g' := s'.gens) (d' := s'.drawn) (t' := s'.toks) I1 hP (fun b u hb e => hm.heap b u (nwr b u e) (hk5 b u (keep3 b u hb e)))
          (by rw [← em]; exact hm.heap P _ (nwr P _ hPs) (hk5 P _ hP3)) (AllBare.movedS (I1.bare.push hgb) hm)
        rw [GxR.sh_eta s1 s' hm.os] at J
        exact ⟨upd H1 P (.tbl (ps ++ more)), ⟨⟨ps ++ more, upd_same, by rw [← em]; exact ht3⟩, fun b hb => upd_ne hb⟩, J⟩
  cases hf : codeAmong gpos ps.toList with
  | none =>
    refine wpAny_genexprCodeX hcode (cd.code hP2 ht) (cd.tab hP2) hf fun c' h' tk hx hge hlt hco' _ htab' _ => ?_
    obtain ⟨o1, vs, f1, tf, fl, tg, inF, tx, tt, op, _, _, _, _, _, _, _, _, _, htr, _⟩ := hco'
    exact cont _ h' tk _ hx (Nat.le_trans hge (Nat.le_of_lt hlt)) htab'.2 ⟨_, rfl⟩ htr
  | some cv =>
    refine wpAny_genexprCode_hit hcode (cd.code hP2 ht) hf ?_
    exact cont cv h2 tk2 ps (Heap.ExtBut.refl _ _) (Nat.le_refl _) hP2 ⟨#[], by simp⟩ ht
end

/-! ### what is walked -/
section
variable {X : Cx} {P : Addr}
/-- an expression whose iterator a generator expression walks -/
structure PSrc (X : Cx) (P : Addr) (iter : Expr) (t : L2.St → Hp → (Nat → (Nat → Value → Prop) → Hp → Prop) → Prop) : Prop where
  run : ∀ (pins : List (Addr × Obj)) (s : Shared) (σ : L2.St) (H : Hp) (R : Nat → (Nat → Value → Prop) → Hp → Prop), Inv X pins σ H s → t σ H R →
    wpAny (model X.prog X.w) X.A (eval iter X.env) (fun xv s₁ => wpAny (model X.prog X.w) X.A (pyIter xv) (fun it s₂ => ∃ s1 H1 n Pi, Src X pins σ P s1 H1 n Pi it s₂ ∧ R n Pi H1) X.xe s₁) X.xe s
def itemsOf (xs : List V) : Nat → Value → Prop := fun i u => ∃ y, xs[i]? = some y ∧ RelV y u
def tSrcL (K : PySem.W.Frag) (P : Addr) (te : TE) : L2.St → Hp → (Nat → (Nat → Value → Prop) → Hp → Prop) → Prop := fun σ H R => te σ H fun v H1 => ∃ a xs, v = .ref a ∧ SqL K H1 a xs ∧ GxR.TabG H1 P ∧ R xs.length (itemsOf xs) H1
def tSrcT (K : PySem.W.Frag) (P : Addr) (te : TE) : L2.St → Hp → (Nat → (Nat → Value → Prop) → Hp → Prop) → Prop := fun σ H R => te σ H fun v H1 => ∃ a xs, v = .ref a ∧ SqT K H1 a xs ∧ GxR.TabG H1 P ∧ R xs.length (itemsOf xs) H1
def tSrcR (P : Addr) (ta : TA) : L2.St → Hp → (Nat → (Nat → Value → Prop) → Hp → Prop) → Prop := fun σ H R => ta σ H fun vs H1 => ∃ j : Int, vs = [.int j] ∧ -(2 ^ 62) ≤ j ∧ j < 2 ^ 62 ∧ GxR.TabG H1 P ∧ R j.toNat (fun i u => i < j.toNat ∧ ∃ t, u = .int (i : Int) t) H1
theorem items_get {xs : List V} {its : List Value} (rv : Vals xs its) {i : Nat} {u : Value} (h : its.toArray[i]? = some u) : itemsOf xs i u := by
  have h' : its[i]? = some u := by simpa using h
  have hi : i < its.length := (List.getElem?_eq_some_iff.mp h').1
  have hx : i < xs.length := by rw [rv.length]; exact hi
  obtain ⟨w, e, r⟩ := rv.get (List.getElem?_eq_getElem hx)
  rw [h'] at e
  cases e
  exact ⟨_, List.getElem?_eq_getElem hx, r⟩
theorem Walks.weak {prog : Program} {w : World} {A : Around} {I : Addr} {fp wr : List Addr} {n n' : Nat} {P P' : Nat → Value → Prop} {St : Nat → Heap → Prop} (W : PySem.Walks prog w A I fp wr n P St) (hn : n = n') (h : ∀ i v, i < n → P i v → P' i v) : PySem.Walks prog w A I fp wr n' P' St := by
  subst hn
  exact ⟨W.sub, W.frame, fun i s Q E hi st hQ => W.item i s Q E hi st fun v h' tk hp => hQ v h' tk (h i v hi hp), W.done, W.self⟩
theorem psrc_list {iter : Expr} {te : TE} (hi : PE X iter te) : PSrc X P iter (tSrcL X.K P te) := by
  refine ⟨fun pins s σ H R I h => thn (hi.run pins s σ H _ I h) fun xv s1 ⟨v, H1, I1, r1, q⟩ => ?_⟩
  obtain ⟨a, xs, rfl, hq, ⟨ps, hP, ht⟩, q⟩ := q
  obtain rfl : xv = Value.ref a := r1
  obtain ⟨its, rv, pl, hz⟩ := I1.list hq
  obtain ⟨o, n, ho, hcl, _, _⟩ := id pl
  have hPs : s1.heap.get? P = some { cls := .none, data := .fields ps } := I1.hok P _ hP
  have ha := Heap.lt_size ho
  refine wpAny_pyIter_list pl.isList ⟨s1, H1, _, _, ⟨I1, ⟨_, s1.toks, rfl, fun b o e => Heap.get?_push_of_some _ e⟩, s1.heap.objs.size, [s1.heap.objs.size, a], _, rfl, Nat.le_refl _, fun A' hA => Walks.weak (PySem.Walks.list hA _ a (Nat.ne_of_lt ha) its.toArray) (by simp [rv.length]) fun i v _ hv => items_get rv hv,
    ⟨⟨_, Heap.get?_push_size _ rfl, rfl, rfl⟩, pl.isList.push _⟩, ?_, ?_⟩, q⟩
  · intro b hb
    show b < (s1.heap.push _).objs.size
    rw [Heap.size_push]
    rcases List.mem_cons.mp hb with z | z
    · rw [z]; exact Nat.lt_succ_self _
    · have z' : b = a := by simpa using z
      rw [z']; exact Nat.lt_succ_of_lt ha
  · intro z
    rcases List.mem_cons.mp z with z | z
    · have := Heap.lt_size hPs
      rw [z] at this
      exact Nat.lt_irrefl _ this
    · have z' : P = a := by simpa using z
      rw [← z', hPs] at ho
      cases ho
      cases hcl
theorem psrc_tup {iter : Expr} {te : TE} (hi : PE X iter te) : PSrc X P iter (tSrcT X.K P te) := by
  refine ⟨fun pins s σ H R I h => thn (hi.run pins s σ H _ I h) fun xv s1 ⟨v, H1, I1, r1, q⟩ => ?_⟩
  obtain ⟨a, xs, rfl, hq, ⟨ps, hP, ht⟩, q⟩ := q
  obtain rfl : xv = Value.ref a := r1
  obtain ⟨its, rv, pl, hz⟩ := I1.tuple hq
  obtain ⟨o, ho, hcl, n, hdat⟩ := id pl
  have hT : s1.heap.IsTuple a its.toArray := pl
  have hPs : s1.heap.get? P = some { cls := .none, data := .fields ps } := I1.hok P _ hP
  have ha := Heap.lt_size ho
  refine wpAny_pyIter_tuple hT ⟨s1, H1, _, _, ⟨I1, ⟨_, s1.toks, rfl, fun b o e => Heap.get?_push_of_some _ e⟩, s1.heap.objs.size, [s1.heap.objs.size, a], _, rfl, Nat.le_refl _, fun A' hA => Walks.weak (PySem.Walks.tuple hA _ a (Nat.ne_of_lt ha) its.toArray) (by simp [rv.length]) fun i v _ hv => items_get rv hv,
    ⟨⟨_, Heap.get?_push_size _ rfl, rfl, rfl⟩, hT.push _⟩, ?_, ?_⟩, q⟩
  · intro b hb
    show b < (s1.heap.push _).objs.size
    rw [Heap.size_push]
    rcases List.mem_cons.mp hb with z | z
    · rw [z]; exact Nat.lt_succ_self _
    · have z' : b = a := by simpa using z
      rw [z']; exact Nat.lt_succ_of_lt ha
  · intro z
    rcases List.mem_cons.mp z with z | z
    · have := Heap.lt_size hPs
      rw [z] at this
      exact Nat.lt_irrefl _ this
    · have z' : P = a := by simpa using z
      rw [← z', hPs] at ho
      cases ho
      cases hcl
theorem psrc_range {a : Expr} {ta : TA} {p pos : Pos} (hg : Gl X "range") (hm : X.mg "range" = none) (ha : PA X [a] ta) (hs : starEach [a] X.env = [(false, eval a X.env)] := by rfl) : PSrc X P (.Call (.Name "range" p) [a] [] pos) (tSrcR P ta) := by
  refine ⟨fun pins s σ H R I h => ?_⟩
  refine Call_ (ld_blt I hg hm boot_range (PyProof.Rows.callWith_type1 (thn (ha.run pos pins s σ H _ I h) fun us s1 ⟨vs, H1, I1, r1, q1⟩ => ?_) hs rfl))
  obtain ⟨j, rfl, q1, q2, ⟨ps, hP, ht⟩, q⟩ := q1
  have hPs : s1.heap.get? P = some { cls := .none, data := .fields ps } := I1.hok P _ hP
  obtain ⟨u, rfl, t, rfl⟩ := vals1 r1
  refine call_range_1 ?_
  refine wpAny_pyIter_range (IsRange.new ..) (small_one (by omega) (by omega) q1 q2) ?_
  generalize hh2 : s1.heap.push _ = h2
  have k1 : ∀ b o, s1.heap.get? b = some o → h2.get? b = some o := fun b o e => by
    rw [← hh2]; exact Heap.get?_push_of_some _ e
  have z2 : h2.objs.size = s1.heap.objs.size + 1 := by rw [← hh2]; exact Heap.size_push ..
  refine ⟨s1, H1, j.toNat, fun i u => i < j.toNat ∧ ∃ t, u = .int (i : Int) t, ⟨I1, ⟨_, _, rfl, fun b o e => Heap.get?_push_of_some _ (k1 b o e)⟩, h2.objs.size, [h2.objs.size], _, rfl, by omega, fun A' hA => Walks.weak (PySem.Walks.range hA h2.objs.size 0 1 j.toNat) rfl fun i v hi hv => ⟨hi, ?_⟩, ?_, ?_, ?_⟩, q⟩
  · obtain ⟨t, e⟩ := hv
    exact ⟨t, by rw [e]; congr 1; omega⟩
  · have e1 : (0 : Int) + ((0 : Nat) : Int) * 1 = 0 := by simp
    have e2 : ((j.toNat : Nat) : Int) - ((0 : Nat) : Int) = Builtin.Range.rangeSize 0 j 1 := by rw [rangeSize_one]; split <;> omega
    show IsRangeIter _ _ ((0 : Int) + ((0 : Nat) : Int) * 1) (((j.toNat : Nat) : Int) - ((0 : Nat) : Int)) 1
    rw [e1, e2]
    exact Heap.get?_push_size _ rfl
  · intro b hb
    show b < (h2.push _).objs.size
    rw [Heap.size_push]
    have z' : b = h2.objs.size := by simpa using hb
    rw [z']; exact Nat.lt_succ_self _
  · intro z
    have z' : P = h2.objs.size := by simpa using z
    have hlt := Heap.lt_size hPs
    rw [z', z2] at hlt
    exact Nat.not_succ_lt_self hlt
end

/-! ### all, min of it -/
section
variable {X : Cx} {P c : Addr} {elt iter : Expr} {x : Str} {px p pos gpos : Pos} {scope : Scope} {k : Nat} {ts : L2.St → Hp → (Nat → (Nat → Value → Prop) → Hp → Prop) → Prop}
def tAllG (P : Addr) (C : L2.St → Hp → Nat → (Nat → Value → Prop) → (Nat → Bool) → Prop) (ts : L2.St → Hp → (Nat → (Nat → Value → Prop) → Hp → Prop) → Prop) : TE := fun σ H Q => ts σ H fun n Pi H1 => GxR.TabG H1 P ∧ ∃ tr, C σ H1 n Pi tr ∧ ∀ H2, GxR.Tabbed P H1 H2 → Q (.bl ((List.range n).all tr)) H2
def tMinG (P : Addr) (C : L2.St → Hp → Nat → (Nat → Value → Prop) → (Nat → Int) → Prop) (ts : L2.St → Hp → (Nat → (Nat → Value → Prop) → Hp → Prop) → Prop) : TE := fun σ H Q => ts σ H fun n Pi H1 => GxR.TabG H1 P ∧ 0 < n ∧ ∃ val, C σ H1 n Pi val ∧ ∀ H2 j, GxR.Tabbed P H1 H2 → j < n → (∀ i, i < n → val j ≤ val i) → Q (.int (val j)) H2
theorem pe_allG {C : L2.St → Hp → Nat → (Nat → Value → Prop) → (Nat → Bool) → Prop} (hr : Room k X.A) (hg : Gl X "all") (hm : X.mg "all" = none) (TB : GxR.TabB X.base X.mg c P) (hcode : X.env.code = .ref c) (S : GxR.GenS X.env scope x) (hsrc : PSrc X P iter ts)
    (hel : ∀ pins σ H1 s1 n Pi tr, Inv X pins σ H1 s1 → GxR.TabG H1 P → C σ H1 n Pi tr → EltOk X P s1 scope x elt n Pi fun i => IsB (tr i)) (hs : ∀ v, genFold iter X.env v = pure v)
    (he : starEach [.GeneratorExp elt [⟨.Name x px, iter, [], 0⟩] scope gpos] X.env = (false, eval (.GeneratorExp elt [⟨.Name x px, iter, [], 0⟩] scope gpos) X.env) :: starEach [] X.env := by rfl) :
    PE X (.Call (.Name "all" p) [.GeneratorExp elt [⟨.Name x px, iter, [], 0⟩] scope gpos] [] pos) (tAllG P C ts) := by
  refine ⟨fun pins s σ H Q I h => ?_⟩
  refine wpAny_Call_Name_kw (ld_blt I hg hm (show bootBuiltins "all" = some (.builtin "all") by decide +kernel) ?_)
  refine PyProof.Rows.callWith_builtin1 ?_ he (by rfl)
  rw [he]
  show wpAny _ _ (spliced ((false, _) :: backTo pos (starEach [] X.env))) _ _ s
  refine Calls.spliced_cons (gen_core (pins := pins) (σ := σ) hr TB hcode S hs (thn (hsrc.run pins s σ H _ I h) fun xv s1 h1 => thn h1 fun it s2 h2 => ?_))
  obtain ⟨s1, H1, n, Pi, src, hT, tr, hC, q⟩ := h2
  refine ⟨s1, H1, n, Pi, _, src, hT, hel pins σ H1 s1 n Pi tr src.inv hT hC, fun g s5 ⟨fp, wr, G, Sv, W, hst, hfp, hI⟩ => ?_⟩
  refine Calls.spliced_nil (call_all_walkS (W.self 0 _ _ _ hst ⟨g, fp, wr, G, _, _, Sv, tr, rfl, W, hst, fun i v sx Qx Ex hv hq => ?_, fun s' hmv => ?_⟩))
  · obtain rfl : v = Value.bool (tr i) := hv
    exact wpAny_truthy_bool hq
  · obtain ⟨H2, hT2, J⟩ := hI s' hmv
    exact ⟨.bl _, H2, J, rfl, q H2 hT2⟩
theorem pe_minG {C : L2.St → Hp → Nat → (Nat → Value → Prop) → (Nat → Int) → Prop} (hr : Room k X.A) (hg : Gl X "min") (hm : X.mg "min" = none) (TB : GxR.TabB X.base X.mg c P) (hcode : X.env.code = .ref c) (S : GxR.GenS X.env scope x) (hsrc : PSrc X P iter ts)
    (hel : ∀ pins σ H1 s1 n Pi val, Inv X pins σ H1 s1 → GxR.TabG H1 P → C σ H1 n Pi val → EltOk X P s1 scope x elt n Pi fun i => IsI (val i)) (hs : ∀ v, genFold iter X.env v = pure v)
    (he : starEach [.GeneratorExp elt [⟨.Name x px, iter, [], 0⟩] scope gpos] X.env = (false, eval (.GeneratorExp elt [⟨.Name x px, iter, [], 0⟩] scope gpos) X.env) :: starEach [] X.env := by rfl) :
    PE X (.Call (.Name "min" p) [.GeneratorExp elt [⟨.Name x px, iter, [], 0⟩] scope gpos] [] pos) (tMinG P C ts) := by
  refine ⟨fun pins s σ H Q I h => ?_⟩
  refine wpAny_Call_Name_kw (ld_blt I hg hm (show bootBuiltins "min" = some (.builtin "min") by decide +kernel) ?_)
  refine PyProof.Rows.callWith_builtin1 ?_ he (by rfl)
  rw [he]
  show wpAny _ _ (spliced ((false, _) :: backTo pos (starEach [] X.env))) _ _ s
  refine Calls.spliced_cons (gen_core (pins := pins) (σ := σ) hr TB hcode S hs (thn (hsrc.run pins s σ H _ I h) fun xv s1 h1 => thn h1 fun it s2 h2 => ?_))
  obtain ⟨s1, H1, n, Pi, src, hT, hn, val, hC, q⟩ := h2
  refine ⟨s1, H1, n, Pi, _, src, hT, hel pins σ H1 s1 n Pi val src.inv hT hC, fun g s5 ⟨fp, wr, G, Sv, W, hst, hfp, hI⟩ => ?_⟩
  refine Calls.spliced_nil (call_min_walkS (W.self 0 _ _ _ hst ⟨g, fp, wr, G, _, _, Sv, _, rfl, W, hst, hfp, hn, CmpOf.ints_lt val (fun i v hv => hv), fun v s' hv hmv => ?_⟩))
  obtain ⟨t, rfl⟩ := hv
  obtain ⟨H2, hT2, J⟩ := hI s' hmv
  have hb := argBest_lt val (n - 1)
  exact ⟨.int _, H2, J, ⟨t, rfl⟩, q H2 _ hT2 (by omega) fun i hi => hb.2 i (by omega)⟩
end
end K23
/-! sorted of a list or a tuple whose items read as alike data. -/
namespace K23
open PySem PySem.Spec PyProof.Rows L2 PySem.W

section
variable {prog : Program} {w : World} {A : Around} {E : Value → Shared → Prop} {s : Shared} {β : Type} {bs : List β} {enc : β → PyData} {R : Value → β → Prop}
theorem sorted_seq {a : Addr} {T : String} {o : Obj} {its : Array Value} {n : Nat} {Q : Value → Shared → Prop} (hT : T = "list" ∨ T = "tuple") (ho : s.heap.get? a = some o) (hc : o.cls = .type T) (hd : o.data = .seq its n) (hz : its.size ≤ sizeLine)
    (e : EachIs R its.toList bs) (er : EachIs (fun v b => ∃ as, Reads s.heap v (enc b) as) its.toList bs) (hal : AllAlike (bs.map enc)) (hk : Sortable (bs.map enc)) (hu : ∀ b, b ∈ bs → A.units + 4 + (enc b).depth < cLine)
    (h : ∀ (h1 h' : Heap) out c, (∀ b x, s.heap.get? b = some x → h1.get? b = some x) → (∀ b x, h1.get? b = some x → h'.get? b = some x) → h'.get? h1.objs.size = some (seqObj "list" out.toArray c) → EachIs R out (bs.mergeSort (dataLe false enc)) → Q (.ref h1.objs.size) { s with heap := h' }) :
    wpAny (model prog w) A (call (.builtin "sorted") [.ref a]) Q E s := by
  have hL : bs.length ≤ sizeLine := by
    have := e.length
    simp only [Array.length_toList] at this
    omega
  refine Calls.call_function_entry kind_sorted plain_sorted entry_sorted (args_sorted1 _) ?_
  unfold Builtin.«sorted»
  refine wpAny_bind (m := checkCount "sorted" 1 1 _) (wpAny_pure ?_)
  refine wpAny_bind (wpAny_collect_seq a hT ho hc hd (fun h1 k1 => ?_) hz)
  refine wpAny_bind (wpAny_newList ?_ (by simpa using hz))
  have hp : (h1.push (seqObj "list" its.toList.toArray 0)).get? h1.objs.size = some (seqObj "list" its.toList.toArray 0) := Heap.get?_push_size _ rfl
  have k2 : ∀ b x, h1.get? b = some x → (h1.push (seqObj "list" its.toList.toArray 0)).get? b = some x := fun b x q => Heap.get?_push_of_some _ q
  have er2 : EachIs (fun v b => ∃ as, Reads (h1.push (seqObj "list" its.toList.toArray 0)) v (enc b) as ∧ h1.objs.size ∉ as) its.toList bs := er.mono fun v b ⟨as, r⟩ =>
    have r1 := Reads.keeps k1 r
    ⟨as, Reads.keeps k2 r1, fun hm => by
      obtain ⟨x, hx⟩ := PyProof.On.reads_mem_get r1 _ hm
      exact Nat.lt_irrefl _ (Heap.lt_size hx)⟩
  refine wpAny_bind (wpAny_holding ?_)
  refine list_sort_data (s := { s with heap := h1.push (seqObj "list" its.toList.toArray 0) }) (n := 0) hp e er2 hal hk hL (fun b hb => ?_) fun out hlen eo => ?_
  · have := hu b hb
    have e1 : A.in1.units = A.units + 1 := rfl
    rw [e1]
    omega
  · obtain ⟨c, hcat⟩ := sortedHeap_at (h := h1.push (seqObj "list" its.toList.toArray 0)) (a := h1.objs.size) (vs := its.toList) (out := out.toArray) hp
    exact wpAny_pure ⟨_, rfl, h h1 _ out c k1 (fun b x q => (sortedHeap_old (Nat.ne_of_lt (Heap.lt_size q)) (Heap.lt_size (k2 b x q))).trans (k2 b x q)) hcat eo⟩
end

section
variable {X : Cx}
/-- sorted(xs), xs a list or a tuple; val b: the item, enc b: what it reads as -/
def rSortedDat (K : PySem.W.Frag) : List V → Hp → VK → Prop := fun vs H Q => ∃ (β : Type) (a : Addr) (bs : List β) (val : β → V) (enc : β → PyData), vs = [.ref a] ∧ (SqL K H a (bs.map val) ∨ SqT K H a (bs.map val)) ∧
  (∀ b ∈ bs, Dp K H (val b) (enc b)) ∧ AllAlike (bs.map enc) ∧ Sortable (bs.map enc) ∧ (∀ b ∈ bs, (enc b).depth ≤ 8) ∧ ∀ p, H p = none → Q (.ref p) (upd H p (.lst ((bs.mergeSort (dataLe false enc)).map val)))
theorem each_vals {β : Type} {bs : List β} {val : β → V} : ∀ {its : List Value}, Vals (bs.map val) its → EachIs (fun v b => RelV (val b) v ∧ b ∈ bs) its bs := by
  have gen : ∀ (cs : List β) (its : List Value), (∀ b ∈ cs, b ∈ bs) → Vals (cs.map val) its → EachIs (fun v b => RelV (val b) v ∧ b ∈ bs) its cs := by
    intro cs
    induction cs with
    | nil =>
      intro its _ r
      cases r
      exact .nil
    | cons c cs ih =>
      intro its hm r
      cases r with
      | cons r1 r2 => exact .cons ⟨r1, hm c List.mem_cons_self⟩ (ih _ (fun b hb => hm b (List.mem_cons_of_mem _ hb)) r2)
  intro its r
  exact gen bs its (fun _ h => h) r
theorem vals_each {β : Type} {val : β → V} {S : Value → β → Prop} : ∀ {its : List Value} {bs : List β}, EachIs (fun v b => RelV (val b) v ∧ S v b) its bs → Vals (bs.map val) its
  | _, _, .nil => .nil
  | _, _, .cons h t => .cons h.1 (vals_each t)
theorem cr_sortedDat {k : Nat} (hr : Room k X.A) : CallR X (.builtin "sorted") (rSortedDat X.K) := by
  intro pins s σ H vs us Q I r h
  obtain ⟨β, a, bs, val, enc, rfl, hs, hdp, hal, hk, hdep, q⟩ := h
  obtain ⟨u, rfl, ru⟩ := vals1 r
  obtain rfl : u = Value.ref a := ru
  have hobj : ∃ (its : List Value) (T : String) (o : Obj) (n : Nat), Vals (bs.map val) its ∧ (T = "list" ∨ T = "tuple") ∧ s.heap.get? a = some o ∧ o.cls = .type T ∧ o.data = .seq its.toArray n ∧ (bs.map val).length ≤ sizeLine := by
    rcases hs with hs | hs
    · obtain ⟨its, rv, ⟨o, n, ho, hc, _, hd⟩, hz⟩ := I.list hs
      exact ⟨its, "list", o, n, rv, .inl rfl, ho, hc, hd, hz⟩
    · obtain ⟨its, rv, ⟨o, ho, hc, n, hd⟩, hz⟩ := I.tuple hs
      exact ⟨its, "tuple", o, n, rv, .inr rfl, ho, hc, hd, hz⟩
  obtain ⟨its, T, o, n, rv, hT, ho, hc, hd, hz⟩ := hobj
  have ev := each_vals rv
  have hl := rv.length
  refine sorted_seq hT ho hc hd (by rw [List.size_toArray, ← hl]; exact hz) (bs := bs) (enc := enc) (R := fun v b => RelV (val b) v ∧ b ∈ bs) (by simpa using ev) ?_ hal hk (fun b hb => ?_) fun h1 h' out c k1 k2 e eo => ?_
  · refine EachIs.mono (R := fun v b => RelV (val b) v ∧ b ∈ bs) ?_ (by simpa using ev)
    intro v b hb
    exact Dp.reads I _ _ _ (hdp b hb.2) hb.1
  · have := hdep b hb
    have := hr.units
    omega
  · have I1 : Inv X pins σ H { s with heap := h1 } := I.kept (t' := s.toks) k1
    have hn : H h1.objs.size = none := I1.hok.fresh (Nat.le_refl _)
    have hv := vals_each eo
    have new : ObjOk X.prog X.w (upd H h1.objs.size (.lst ((bs.mergeSort (dataLe false enc)).map val))) h' h1.objs.size (.lst ((bs.mergeSort (dataLe false enc)).map val)) := by
      refine ⟨?_, out, c, hv, e⟩
      rw [List.length_map, List.length_mergeSort]
      rw [List.length_map] at hz
      exact hz
    exact ⟨.ref h1.objs.size, _, I1.laid (t' := s.toks) k2 (Nat.le_refl _) new, rfl, q _ hn⟩
end
end K23
/-! Dicts whose keys are nested tuples, in the abstract heap. -/
namespace K23
open PySem PySem.Spec PyProof.Rows L2

/-- an entry: its key, the address of the key's own tuple, its value -/
abbrev NE := NestedKey × Addr × V
def entRel (p : NE) (q : NestedKey × Addr × Value) : Prop := p.1 = q.1 ∧ p.2.1 = q.2.1 ∧ RelV p.2.2 q.2.2
def atN (es : List NE) (k : NestedKey) : Option V := (es.find? fun x => decide (x.1 = k)).map (·.2.2)
def putE (k : NestedKey) (v : V) (x : NE) : NE := if x.1 = k then (x.1, x.2.1, v) else x
def putN (es : List NE) (k : NestedKey) (a : Addr) (v : V) : List NE := if (atN es k).isSome then es.map (putE k v) else es ++ [(k, a, v)]

theorem at_rel : ∀ {es : List NE} {xs : List (NestedKey × Addr × Value)}, Paired entRel es xs → ∀ k, (atN es k = none ∧ atKey xs k = none) ∨ ∃ v p, atN es k = some v ∧ atKey xs k = some p ∧ RelV v p.2
  | _, _, .nil, k => .inl ⟨rfl, rfl⟩
  | _, _, .cons (a := e) (b := x) h t, k => by
    obtain ⟨h1, h2, h3⟩ := h
    by_cases q : e.1 = k
    · have q' : x.1 = k := h1 ▸ q
      exact .inr ⟨e.2.2, x.2, by simp [atN, q], by simp [atKey, q'], h3⟩
    · have q' : ¬ x.1 = k := fun z => q (h1.trans z)
      rcases at_rel t k with ⟨a, b⟩ | ⟨v, p, a, b, c⟩
      · refine .inl ⟨?_, ?_⟩
        · simpa [atN, q] using a
        · simpa [atKey, q'] using b
      · refine .inr ⟨v, p, ?_, ?_, c⟩
        · simpa [atN, q] using a
        · simpa [atKey, q'] using b
theorem map_rel {k : NestedKey} {v : V} {u : Value} (r : RelV v u) : ∀ {es : List NE} {xs : List (NestedKey × Addr × Value)}, Paired entRel es xs → Paired entRel (es.map (putE k v)) (xs.map (putAt k u))
  | _, _, .nil => .nil
  | _, _, .cons (a := e) (b := x) h t => by
    refine .cons ?_ (map_rel r t)
    obtain ⟨h1, h2, h3⟩ := h
    unfold putE putAt
    by_cases q : e.1 = k
    · rw [if_pos q, if_pos (h1 ▸ q)]
      exact ⟨h1, h2, r⟩
    · rw [if_neg q, if_neg (fun z => q (h1.trans z))]
      exact ⟨h1, h2, h3⟩
theorem snoc_rel : ∀ {es : List NE} {xs : List (NestedKey × Addr × Value)} {e x}, Paired entRel es xs → entRel e x → Paired entRel (es ++ [e]) (xs ++ [x])
  | _, _, _, _, .nil, h => .cons h .nil
  | _, _, _, _, .cons a t, h => .cons a (snoc_rel t h)
theorem put_rel {k : NestedKey} {a : Addr} {v : V} {u : Value} (r : RelV v u) {es : List NE} {xs : List (NestedKey × Addr × Value)} (h : Paired entRel es xs) : Paired entRel (putN es k a v) (storedH xs k a u) := by
  unfold putN storedH
  rcases at_rel h k with ⟨e1, e2⟩ | ⟨w, p, e1, e2, _⟩
  · rw [e1, e2]
    exact snoc_rel h ⟨rfl, rfl, r⟩
  · rw [e1, e2]
    exact map_rel r h

/-! what a store leaves -/
theorem keys_put (es : List NE) (k : NestedKey) (a : Addr) (v : V) : (∀ e ∈ es, e.1 ∈ (putN es k a v).map (·.1)) ∧ k ∈ (putN es k a v).map (·.1) := by
  unfold putN
  by_cases h : (atN es k).isSome
  · rw [if_pos h]
    have hk : (es.map (putE k v)).map (·.1) = es.map (·.1) := by
      rw [List.map_map]
      refine List.map_congr_left fun x _ => ?_
      show (putE k v x).1 = x.1
      unfold putE
      split <;> rfl
    rw [hk]
    refine ⟨fun e he => List.mem_map.mpr ⟨e, he, rfl⟩, ?_⟩
    unfold atN at h
    rw [Option.isSome_map, List.find?_isSome] at h
    obtain ⟨x, hx, e⟩ := h
    exact List.mem_map.mpr ⟨x, hx, by simpa using e⟩
  · rw [if_neg h]
    simp only [List.map_append, List.map_cons, List.map_nil]
    exact ⟨fun e he => List.mem_append_left _ (List.mem_map.mpr ⟨e, he, rfl⟩), List.mem_append_right _ (List.mem_singleton.mpr rfl)⟩
theorem mem_put {es : List NE} {k : NestedKey} {a : Addr} {v : V} {e : NE} (h : e ∈ putN es k a v) : e ∈ es ∨ (e.1 = k ∧ e.2.2 = v ∧ (e.2.1 = a ∨ ∃ x ∈ es, x.1 = k ∧ x.2.1 = e.2.1)) := by
  unfold putN at h
  by_cases q : (atN es k).isSome
  · rw [if_pos q] at h
    obtain ⟨x, hx, e1⟩ := List.mem_map.mp h
    unfold putE at e1
    by_cases z : x.1 = k
    · rw [if_pos z] at e1
      subst e1
      exact .inr ⟨z, rfl, .inr ⟨x, hx, z, rfl⟩⟩
    · rw [if_neg z] at e1
      subst e1
      exact .inl hx
  · rw [if_neg q] at h
    rcases List.mem_append.mp h with h | h
    · exact .inl h
    · have h' : e = (k, a, v) := by simpa using h
      subst h'
      exact .inr ⟨rfl, rfl, .inl rfl⟩
theorem length_put (es : List NE) (k : NestedKey) (a : Addr) (v : V) : (putN es k a v).length ≤ es.length + 1 := by
  unfold putN
  split
  · rw [List.length_map]; exact Nat.le_succ _
  · rw [List.length_append, List.length_singleton]; exact Nat.le_refl _
theorem at_mem {es : List NE} {k : NestedKey} {v : V} (h : atN es k = some v) : ∃ e ∈ es, e.1 = k ∧ e.2.2 = v := by
  unfold atN at h
  obtain ⟨x, hx, e⟩ := Option.map_eq_some_iff.mp h
  exact ⟨x, List.mem_of_find?_eq_some hx, by simpa using List.find?_some hx, e⟩
theorem at_of_key {es : List NE} {k : NestedKey} (h : k ∈ es.map (·.1)) : ∃ v, atN es k = some v := by
  obtain ⟨x, hx, e⟩ := List.mem_map.mp h
  have : (atN es k).isSome := by
    unfold atN
    rw [Option.isSome_map, List.find?_isSome]
    exact ⟨x, hx, by simpa using e⟩
  exact Option.isSome_iff_exists.mp this

section
variable {P : Program} {w : World} {H H' : Hp}
mutual
/-- the value is that key: its tuples are tracked -/
inductive NK (H : Hp) : NestedKey → V → Prop
  | int (i : Int) : NK H (.num i) (.int i)
  | bl (b : Bool) : NK H (.num (if b = true then 1 else 0)) (.bl b)
  | tup {a : Addr} {ks : List NestedKey} {vs : List V} : H a = some (.tup vs) → NKs H ks vs → NK H (.tup ks) (.ref a)
inductive NKs (H : Hp) : List NestedKey → List V → Prop
  | nil : NKs H [] []
  | cons {k : NestedKey} {v : V} {ks : List NestedKey} {vs : List V} : NK H k v → NKs H ks vs → NKs H (k :: ks) (v :: vs)
end
mutual
theorem NK.to (k : ∀ a vs, H a = some (.tup vs) → H' a = some (.tup vs)) : ∀ (q : NestedKey) (v : V), NK H q v → NK H' q v
  | .num _, _, h => by
    cases h with
    | int => exact .int _
    | bl b => exact .bl b
  | .tup ks, _, h => by
    cases h with
    | tup e t => exact .tup (k _ _ e) (NKs.to k ks _ t)
  | .none, _, h => nomatch h
  | .text _, _, h => nomatch h
theorem NKs.to (k : ∀ a vs, H a = some (.tup vs) → H' a = some (.tup vs)) : ∀ (qs : List NestedKey) (vs : List V), NKs H qs vs → NKs H' qs vs
  | [], _, h => by cases h; exact .nil
  | q :: qs, _, h => by
    cases h with
    | cons a t => exact .cons (NK.to k q _ a) (NKs.to k qs _ t)
end
mutual
theorem NK.is {h : Heap} (hok : HOk P w H h) : ∀ (q : NestedKey) (v : V) (u : Value), NK H q v → RelV v u → NestedIs h q u
  | .num _, _, u, x, r => by
    cases x with
    | int =>
      obtain ⟨t, rfl⟩ := r
      exact .int _ t
    | bl b =>
      obtain rfl : u = Value.bool b := r
      exact .bool rfl
  | .tup ks, _, u, x, r => by
    cases x with
    | @tup a _ vs e t =>
      obtain rfl : u = Value.ref a := r
      obtain ⟨_, its, rv, o, ho, hc, n, hd⟩ := hok _ _ e
      exact .tup ho hc hd (by simpa using NKs.is hok ks vs its t rv)
  | .none, _, _, x, _ => nomatch x
  | .text _, _, _, x, _ => nomatch x
theorem NKs.is {h : Heap} (hok : HOk P w H h) : ∀ (qs : List NestedKey) (vs : List V) (us : List Value), NKs H qs vs → Vals vs us → NestedAll h qs us
  | [], _, _, x, r => by
    cases x
    cases r
    exact .nil
  | q :: qs, _, _, x, r => by
    cases x with
    | cons a t =>
      cases r with
      | cons r1 r2 => exact .cons (NK.is hok q _ _ a r1) (NKs.is hok qs _ _ t r2)
end

/-- the dict at d, its entries in the order of insertion -/
def DN (P : Program) (w : World) (d : Addr) (es : List NE) : HO := .ext fun h => (d == sysModules) = false ∧ es.length ≤ sizeLine ∧ ∃ xs, Paired entRel es xs ∧
  ∃ o ds ep, h.get? d = some o ∧ o.ExactDict ∧ o.data = .dict ds ep ∧ ds.toList = xs.map (entryOfKey (nestedKind P w)) ∧ (xs.map (·.1)).Nodup
/-- each key's own tuple is tracked -/
def EOk (H : Hp) (es : List NE) : Prop := ∀ e ∈ es, NK H e.1 (.ref e.2.1) ∧ e.1.depth ≤ 8
theorem EOk.to {es : List NE} (h : EOk H es) (k : ∀ a vs, H a = some (.tup vs) → H' a = some (.tup vs)) : EOk H' es := fun e he => ⟨NK.to k _ _ (h e he).1, (h e he).2⟩
theorem EOk.put {es : List NE} {k : NestedKey} {a : Addr} {v : V} (h : EOk H es) (hk : NK H k (.ref a)) (hd : k.depth ≤ 8) : EOk H (putN es k a v) := fun e he => by
  rcases mem_put he with z | ⟨z1, z2, z3⟩
  · exact h e z
  · rcases z3 with z3 | ⟨x, hx, y1, y2⟩
    · rw [z1, z3]; exact ⟨hk, hd⟩
    · have := h x hx
      rw [y1, y2] at this
      rw [z1]; exact this
theorem dn_ok {h : Heap} {d : Addr} {es : List NE} (h1 : (d == sysModules) = false) (h2 : es.length ≤ sizeLine) (h3 : ∃ xs, Paired entRel es xs ∧ ∃ o ds ep, h.get? d = some o ∧ o.ExactDict ∧ o.data = .dict ds ep ∧ ds.toList = xs.map (entryOfKey (nestedKind P w)) ∧ (xs.map (·.1)).Nodup) :
    ObjOk P w H h d (DN P w d es) := by
  obtain ⟨xs, rel, o, ds, ep, ho, r⟩ := h3
  refine ⟨⟨h1, h2, xs, rel, o, ds, ep, ho, r⟩, ⟨o, ho⟩, fun ha hb x k => ?_⟩
  obtain ⟨a1, a2, xs, rel, o, ds, ep, ho, r⟩ := x
  exact ⟨a1, a2, xs, rel, o, ds, ep, k _ ho, r⟩
theorem dn_get {h : Heap} {d : Addr} {es : List NE} (hok : HOk P w H h) (e : H d = some (DN P w d es)) (he : EOk H es) : (d == sysModules) = false ∧ es.length ≤ sizeLine ∧ ∃ xs, Paired entRel es xs ∧ h.DictOfH (nestedKind P w) d xs := by
  obtain ⟨⟨a1, a2, xs, rel, o, ds, ep, ho, hx, hd, hl, hn⟩, _, _⟩ := hok _ _ e
  refine ⟨a1, a2, xs, rel, o, ds, ep, ho, hx, hd, hl, fun x hx => ?_, hn⟩
  have mem : ∀ {es : List NE} {xs : List (NestedKey × Addr × Value)}, Paired entRel es xs → ∀ x ∈ xs, ∃ e ∈ es, e.1 = x.1 ∧ e.2.1 = x.2.1 := by
    intro es xs rel
    induction rel with
    | nil => intro x hx; cases hx
    | cons r t ih =>
      intro x hx
      rcases List.mem_cons.mp hx with z | z
      · subst z; exact ⟨_, List.mem_cons_self, r.1, r.2.1⟩
      · obtain ⟨e, h1, h2⟩ := ih x z
        exact ⟨e, List.mem_cons_of_mem _ h1, h2⟩
  obtain ⟨e', he', k1, k2⟩ := mem rel x hx
  obtain ⟨k3, k4⟩ := he e' he'
  rw [k1, k2] at k3
  rw [k1] at k4
  exact ⟨NK.is hok _ _ _ k3 rfl, k4⟩
theorem dn_mut {d : Addr} {es : List NE} : Mut (some (DN P w d es)) := trivial
end

section
variable {X : Cx} {k : Nat}
theorem room_nested (hr : Room k X.A) : (nestedKind X.prog X.w).room X.A.in1 := by
  have h := hr.units
  show X.A.units + 1 + 8 < cLine
  omega
/-- d[k] = v -/
def rSetN (P : Program) (w : World) : TSet := fun o i v H Q => ∃ d a q es, o = .ref d ∧ i = .ref a ∧ H d = some (DN P w d es) ∧ EOk H es ∧ NK H q (.ref a) ∧ q.depth ≤ 8 ∧ es.length < sizeLine ∧ Q (upd H d (DN P w d (putN es q a v)))
theorem set_dn (hr : Room k X.A) : PSet X (rSetN X.prog X.w) := by
  intro pins s σ H o i v ov iv u Q I ro ri rv h
  obtain ⟨d, a, q, es, rfl, rfl, hd, he, hk, hdep, hlt, hq⟩ := h
  obtain rfl : ov = Value.ref d := ro
  obtain rfl : iv = Value.ref a := ri
  obtain ⟨a1, a2, xs, rel, dm⟩ := dn_get I.hok hd he
  have hl : es.length = xs.length := rel.length
  refine wpAny_setItem_heap (knd := nestedKind X.prog X.w) (k := q) (hsz := by omega) (room_nested hr) ⟨NK.is I.hok _ _ _ hk rfl, hdep⟩ dm fun h' hm' hs => ?_
  obtain ⟨o', ds, ep, ho, hx, hdat, hlist, his, hn⟩ := hm'
  refine ⟨_, I.write (t' := s.toks + _) (x := d) (e := d) (o := DN X.prog X.w d (putN es q a v)) (by rw [hd]; exact dn_mut) (.inl rfl) (fun b x hb e => (hs.2 b hb).trans e) ⟨o', ho⟩ ?_, hq⟩
  have := length_put es q a v
  exact dn_ok a1 (by omega) ⟨_, put_rel rv rel, o', ds, ep, ho, hx, hdat, hlist, hn⟩
/-- d[k], k there -/
def rIxN (P : Program) (w : World) : R2 := fun x y H Q => ∃ d a q es v, x = .ref d ∧ y = .ref a ∧ H d = some (DN P w d es) ∧ EOk H es ∧ NK H q (.ref a) ∧ q.depth ≤ 8 ∧ atN es q = some v ∧ Q v H
theorem ix_dn (hr : Room k X.A) : IxR X (rIxN X.prog X.w) := by
  intro value slice pins s σ H x y v u Q I rx ry h hs
  obtain ⟨d, a, q, es, z, rfl, rfl, hd, he, hk, hdep, hz, hq⟩ := h
  obtain rfl : v = Value.ref d := rx
  obtain rfl : u = Value.ref a := ry
  obtain ⟨a1, a2, xs, rel, dm⟩ := dn_get I.hok hd he
  rcases at_rel rel q with ⟨e1, _⟩ | ⟨w', p, e1, e2, r⟩
  · rw [e1] at hz; cases hz
  · rw [e1] at hz
    cases hz
    exact tail_any dm.typeIs F.slot_dict_getitem.lookup (wpAny_getItem_heap (knd := nestedKind X.prog X.w) (k := q) (room_nested hr) ⟨NK.is I.hok _ _ _ hk rfl, hdep⟩ dm e2 ⟨z, H, I.tok _, r, hq⟩) hs
/-- {} -/
def tNewN (P : Program) (w : World) : TE := fun _ H Q => ∀ p, H p = none → Q (.ref p) (upd H p (DN P w p []))
theorem pe_newN {pos : Pos} : PE X (.Dict [] [] pos) (tNewN X.prog X.w) := ⟨fun pins s σ H Q I h => by
  have hm : (s.heap.objs.size == sysModules) = false := beq_eq_false_iff_ne.mpr (Nat.ne_of_gt I.big)
  exact wpAny_Dict_empty ⟨.ref s.heap.objs.size, _, I.laid (o := DN X.prog X.w s.heap.objs.size []) (t' := s.toks) (fun _ _ q => Heap.get?_push_of_some _ q) (Nat.le_refl _)
    (dn_ok hm (Nat.zero_le _) ⟨[], .nil, _, #[], 0, Heap.get?_push_size _ rfl, ⟨rfl, rfl, rfl⟩, rfl, rfl, List.nodup_nil⟩), rfl, h _ (I.hok.fresh (Nat.le_refl _))⟩⟩
/-- list(d) -/
theorem call_listN (hc : X.calm = true) : CallR X (.type "list") (fun xs H Q => ∃ d es, xs = [V.ref d] ∧ H d = some (DN X.prog X.w d es) ∧ ∀ p, H p = none → Q (.ref p) (upd H p (.lst (es.map fun e => V.ref e.2.1)))) := by
  intro pins s σ H xs us Q I r h
  obtain ⟨d, es, rfl, hd, q⟩ := h
  obtain ⟨u, rfl, ru⟩ := vals1 r
  obtain rfl : u = Value.ref d := ru
  obtain ⟨⟨a1, a2, ks, rel, o, ds, ep, ho, hx, hdt, he, hn⟩, _, _⟩ := I.hok _ _ hd
  have l1 : ds.size = ks.length := size_of_entries he
  have l2 : es.length = ks.length := rel.length
  refine PySem.W.kdl_call (kdl_raw a1 hx hdt) (I.ok.hd hc) ho (by omega) fun h' tk acc' c' kp e it => ?_
  have each : ∀ {es : List NE} {ks : List (NestedKey × Addr × Value)}, Paired entRel es ks → es.map (fun e => V.ref e.2.1) = ks.map fun x => V.ref x.2.1 := by
    intro es ks rel
    induction rel with
    | nil => rfl
    | cons r t ih => rw [List.map_cons, List.map_cons, ih, r.2.1]
  have ea : acc'.toList = ks.map fun x => Value.ref x.2.1 := by
    have hl : acc'.toList.length = ks.length := by rw [Array.length_toList, it.1]; exact l1
    refine List.ext_getElem? fun j => ?_
    cases hj : acc'.toList[j]? with
    | none =>
      have h1 := List.getElem?_eq_none_iff.mp hj
      rw [List.getElem?_eq_none (by rw [List.length_map]; omega)]
    | some v =>
      obtain ⟨en, hen, hv⟩ := it.2 j v (by rw [← Array.getElem?_toList]; exact hj)
      have qe := entry_at he j
      rw [hen] at qe
      cases hb : ks[j]? with
      | none => rw [hb] at qe; cases qe
      | some b =>
        rw [hb] at qe
        have e2 : en = entryOfKey (nestedKind X.prog X.w) b := Option.some.inj qe
        rw [List.getElem?_map, hb, hv, e2]
        rfl
  have rv : ∀ ks : List (NestedKey × Addr × Value), Vals (ks.map fun x => V.ref x.2.1) (ks.map fun x => Value.ref x.2.1) := by
    intro ks
    induction ks with
    | nil => exact .nil
    | cons x t ih => exact .cons rfl ih
  refine ⟨.ref s.heap.objs.size, _, I.laid (t' := tk) (o := .lst (es.map fun e => V.ref e.2.1)) kp (Nat.le_refl _) ?_, rfl, q _ (I.hok.fresh (Nat.le_refl _))⟩
  refine ⟨by rw [List.length_map]; exact a2, acc'.toList, c', ?_, by rw [Array.toArray_toList]; exact e⟩
  rw [each rel, ea]
  exact rv ks
end

/-! ### == and != against {} -/
section
variable {prog : Program} {w : World} {A : Around} {E : Value → Shared → Prop} {s : Shared}
theorem same_empty {nm : String} {a b : Addr} {oa ob : Obj} {ds : Array DictEntry} {ep ep' : Nat} {Q : Bool → Shared → Prop} (ha : (a == sysModules) = false) (hb : (b == sysModules) = false) (hoa : s.heap.get? a = some oa) (hda : oa.data = .dict ds ep)
    (hob : s.heap.get? b = some ob) (hdb : ob.data = .dict #[] ep') (h : Q (decide (ds.size = 0)) s) : wpAny (model prog w) A (Builtin.Dict.samePairs nm a b) Q E s := by
  have na : ¬ (a == sysModules) = true := fun q => Bool.false_ne_true (ha.symm.trans q)
  have nb : ¬ (b == sysModules) = true := fun q => Bool.false_ne_true (hb.symm.trans q)
  unfold Builtin.Dict.samePairs Builtin.Dict.showsAll
  rw [if_neg na, if_neg nb]
  refine wpAny_bind (wpAny_pure (wpAny_bind (wpAny_pure (wpAny_bind (wpAny_dictEntries hoa hda ?_)))))
  refine wpAny_bind (wpAny_dictEntries hob hdb ?_)
  by_cases hz : ds.size = 0
  · rw [decide_eq_true hz] at h
    have e1 : (ds.size != (#[] : Array DictEntry).size) = false := by rw [hz]; rfl
    rw [if_neg (by rw [e1]; exact Bool.false_ne_true)]
    refine wpAny_bind (wpAny_dictEpoch hoa hda ?_)
    rw [hz]
    refine wpAny_bind ?_
    rw [Std.Legacy.Range.forIn_eq_forIn_range']
    simp only [Std.Legacy.Range.size, Nat.sub_zero, Nat.add_sub_cancel, Nat.div_one, List.range'_zero, List.forIn_nil]
    exact wpAny_pure (wpAny_pure h)
  · rw [decide_eq_false hz] at h
    have e1 : (ds.size != (#[] : Array DictEntry).size) = true := by simpa using hz
    rw [if_pos e1]
    exact wpAny_bind (wpAny_rule (wpAny_pure h))
theorem eq_empty {a b : Addr} {oa ob : Obj} {ds : Array DictEntry} {ep ep' : Nat} {Q : Value → Shared → Prop} (ha : (a == sysModules) = false) (hb : (b == sysModules) = false) (hoa : s.heap.get? a = some oa) (xa : oa.ExactDict) (hda : oa.data = .dict ds ep)
    (hob : s.heap.get? b = some ob) (xb : ob.ExactDict) (hdb : ob.data = .dict #[] ep') (hu : A.units < cLine) (h : Q (.bool (decide (ds.size = 0))) s) : wpAny (model prog w) A (compareOp .Eq (.ref a) (.ref b)) Q E s := by
  have ta : s.TypeIs (.ref a) "dict" := ⟨oa, hoa, xa.1⟩
  have tb : s.TypeIs (.ref b) "dict" := ⟨ob, hob, xb.1⟩
  refine wpAny_richCompare_same_room (op := .Eq) ta tb PySem.F.slot_dict_eq (wpAny_call_entry PySem.F.slot_dict_eq ta PySem.F.entry_dict_eq ?_ (PySem.F.args_dict_eq_2 _ _)) hu
  show wpAny _ _ (Builtin.Dict.dictSlotArgs "__eq__" ⟨[.ref a, .ref b], []⟩ >>= _) _ _ s
  refine wpAny_bind ?_
  unfold Builtin.Dict.dictSlotArgs
  refine wpAny_bind (wpAny_notOrdered_dict ta (show wpAny _ _ (pure (Value.ref a, Value.ref b)) _ _ s from wpAny_pure ?_))
  refine wpAny_bind (wpAny_isInstance (T := "dict") tb PySem.F.sub_dict_dict ?_)
  simp only [Bool.not_true, Bool.false_eq_true, if_false]
  refine wpAny_bind (wpAny_pure (wpAny_bind (wpAny_pure (wpAny_bind (same_empty ha hb hoa hda hob hdb (wpAny_pure ⟨_, rfl, ⟨(fun x => nomatch x), ?_⟩⟩))))))
  simpa using h
theorem ne_empty {a b : Addr} {oa ob : Obj} {ds : Array DictEntry} {ep ep' : Nat} {Q : Value → Shared → Prop} (ha : (a == sysModules) = false) (hb : (b == sysModules) = false) (hoa : s.heap.get? a = some oa) (xa : oa.ExactDict) (hda : oa.data = .dict ds ep)
    (hob : s.heap.get? b = some ob) (xb : ob.ExactDict) (hdb : ob.data = .dict #[] ep') (hu : A.units < cLine) (h : Q (.bool (!decide (ds.size = 0))) s) : wpAny (model prog w) A (compareOp .NotEq (.ref a) (.ref b)) Q E s := by
  have ta : s.TypeIs (.ref a) "dict" := ⟨oa, hoa, xa.1⟩
  have tb : s.TypeIs (.ref b) "dict" := ⟨ob, hob, xb.1⟩
  refine wpAny_richCompare_same_room (op := .NotEq) ta tb PySem.F.slot_dict_ne (wpAny_call_entry PySem.F.slot_dict_ne ta PySem.F.entry_dict_ne ?_ (PySem.F.args_dict_ne_2 _ _)) hu
  show wpAny _ _ (Builtin.Dict.dictSlotArgs "__ne__" ⟨[.ref a, .ref b], []⟩ >>= _) _ _ s
  refine wpAny_bind ?_
  unfold Builtin.Dict.dictSlotArgs
  refine wpAny_bind (wpAny_notOrdered_dict ta (show wpAny _ _ (pure (Value.ref a, Value.ref b)) _ _ s from wpAny_pure ?_))
  refine wpAny_bind (wpAny_isInstance (T := "dict") tb PySem.F.sub_dict_dict ?_)
  simp only [Bool.not_true, Bool.false_eq_true, if_false]
  refine wpAny_bind (wpAny_pure (wpAny_bind (wpAny_pure (wpAny_bind (same_empty ha hb hoa hda hob hdb (wpAny_pure ⟨_, rfl, ⟨(fun x => nomatch x), ?_⟩⟩))))))
  simpa using h
end
section
variable {X : Cx} {k : Nat}
theorem dn_sizes {P : Program} {w : World} {es : List NE} {xs : List (NestedKey × Addr × Value)} {ds : Array DictEntry} (rel : Paired entRel es xs) (he : ds.toList = xs.map (entryOfKey (nestedKind P w))) : decide (ds.size = 0) = es.isEmpty := by
  have h1 : ds.size = xs.length := size_of_entries he
  rw [h1, ← rel.length]
  cases es <;> simp
def rEqN (P : Program) (w : World) (f : Bool → Bool) : R2 := fun x y H Q => ∃ d e es, x = .ref d ∧ y = .ref e ∧ H d = some (DN P w d es) ∧ H e = some (DN P w e []) ∧ Q (.bl (f es.isEmpty)) H
theorem op_eqN (hr : Room k X.A) : OpR X (compareOp .Eq) (rEqN X.prog X.w id) := by
  intro pins s σ H x y v u Q I rx ry h
  obtain ⟨d, e, es, rfl, rfl, hd, he, q⟩ := h
  obtain rfl : v = Value.ref d := rx
  obtain rfl : u = Value.ref e := ry
  obtain ⟨⟨a1, a2, xs, rel, o, ds, ep, ho, hx, hdt, hl, hn⟩, _, _⟩ := I.hok _ _ hd
  obtain ⟨⟨b1, b2, ys, rel', o', ds', ep', ho', hx', hdt', hl', hn'⟩, _, _⟩ := I.hok _ _ he
  cases rel'
  have e0 : ds' = #[] := by simpa using hl'
  subst e0
  exact eq_empty a1 b1 ho hx hdt ho' hx' hdt' hr.units0 (fin_bl I q (dn_sizes rel hl).symm)
theorem op_neN (hr : Room k X.A) : OpR X (compareOp .NotEq) (rEqN X.prog X.w not) := by
  intro pins s σ H x y v u Q I rx ry h
  obtain ⟨d, e, es, rfl, rfl, hd, he, q⟩ := h
  obtain rfl : v = Value.ref d := rx
  obtain rfl : u = Value.ref e := ry
  obtain ⟨⟨a1, a2, xs, rel, o, ds, ep, ho, hx, hdt, hl, hn⟩, _, _⟩ := I.hok _ _ hd
  obtain ⟨⟨b1, b2, ys, rel', o', ds', ep', ho', hx', hdt', hl', hn'⟩, _, _⟩ := I.hok _ _ he
  cases rel'
  have e0 : ds' = #[] := by simpa using hl'
  subst e0
  exact ne_empty a1 b1 ho hx hdt ho' hx' hdt' hr.units0 (fin_bl I q (by rw [dn_sizes rel hl]))
end

/-! ### dict of a list of pairs; a display with one pair -/
def putAll (acc es : List NE) : List NE := es.foldl (fun a e => putN a e.1 e.2.1 e.2.2) acc
theorem putAll_rel : ∀ {es : List NE} {ps : List (NestedKey × Addr × Value)} {acc : List NE} {xs : List (NestedKey × Addr × Value)}, Paired entRel acc xs → Paired entRel es ps → Paired entRel (putAll acc es) (storedAllH xs ps)
  | _, _, _, _, h, .nil => h
  | _, _, acc, xs, h, .cons (a := e) (b := x) r t => by
    obtain ⟨r1, r2, r3⟩ := r
    show Paired entRel (putAll (putN acc e.1 e.2.1 e.2.2) _) (storedAllH (storedH xs x.1 x.2.1 x.2.2) _)
    rw [r1, r2]
    exact putAll_rel (put_rel r3 h) t
theorem length_putAll : ∀ (es acc : List NE), (putAll acc es).length ≤ acc.length + es.length
  | [], acc => Nat.le_refl _
  | e :: es, acc => by
    have h1 := length_putAll es (putN acc e.1 e.2.1 e.2.2)
    have h2 := length_put acc e.1 e.2.1 e.2.2
    rw [List.length_cons]
    show (putAll (putN acc e.1 e.2.1 e.2.2) es).length ≤ _
    omega
theorem keys_putAll : ∀ (es acc : List NE), (∀ e ∈ acc, e.1 ∈ (putAll acc es).map (·.1)) ∧ ∀ e ∈ es, e.1 ∈ (putAll acc es).map (·.1)
  | [], acc => ⟨fun e he => List.mem_map.mpr ⟨e, he, rfl⟩, fun e he => nomatch he⟩
  | x :: es, acc => by
    obtain ⟨h1, h2⟩ := keys_put acc x.1 x.2.1 x.2.2
    obtain ⟨h3, h4⟩ := keys_putAll es (putN acc x.1 x.2.1 x.2.2)
    have tr : ∀ k ∈ (putN acc x.1 x.2.1 x.2.2).map (·.1), k ∈ (putAll (putN acc x.1 x.2.1 x.2.2) es).map (·.1) := fun k hk => by
      obtain ⟨e, he, rfl⟩ := List.mem_map.mp hk
      exact h3 e he
    refine ⟨fun e he => tr _ (h1 e he), fun e he => ?_⟩
    rcases List.mem_cons.mp he with z | z
    · subst z; exact tr _ h2
    · exact h4 e z
/-- what holds of each stored entry by its key and its value holds of all -/
theorem all_putAll {S : NestedKey → V → Prop} {T : NestedKey → Addr → Prop} : ∀ (es acc : List NE), (∀ e ∈ acc, S e.1 e.2.2 ∧ T e.1 e.2.1) → (∀ e ∈ es, S e.1 e.2.2 ∧ T e.1 e.2.1) → ∀ e ∈ putAll acc es, S e.1 e.2.2 ∧ T e.1 e.2.1
  | [], acc, h, _ => h
  | x :: es, acc, h, h2 => by
    refine all_putAll (S := S) (T := T) es (putN acc x.1 x.2.1 x.2.2) (fun e he => ?_) fun e he => h2 e (List.mem_cons_of_mem _ he)
    rcases mem_put he with z | ⟨z1, z2, z3⟩
    · exact h e z
    · have hx := h2 x List.mem_cons_self
      refine ⟨by rw [z1, z2]; exact hx.1, ?_⟩
      rcases z3 with z3 | ⟨y, hy, y1, y2⟩
      · rw [z1, z3]; exact hx.2
      · have := (h y hy).2
        rw [y1, y2] at this
        rw [z1]; exact this
section
variable {X : Cx} {k : Nat}
def rDictN (K : PySem.W.Frag) (P : Program) (w : World) : List V → Hp → VK → Prop := fun xs H Q => ∃ (a : Addr) (ts : List Addr) (es : List NE), xs = [.ref a] ∧ SqL K H a (ts.map V.ref) ∧ Paired (fun t (e : NE) => H t = some (.tup [.ref e.2.1, e.2.2])) ts es ∧ EOk H es ∧
  ∀ p, H p = none → Q (.ref p) (upd H p (DN P w p (putAll [] es)))
theorem pairs_vals {P : Program} {w : World} {H : Hp} {h : Heap} (hok : HOk P w H h) : ∀ {ts : List Addr} {es : List NE}, Paired (fun t (e : NE) => H t = some (.tup [.ref e.2.1, e.2.2])) ts es →
    ∃ ps : List (NestedKey × Addr × Value), Paired entRel es ps ∧ ∀ (j : Nat) (k v : Value), (ps.map fun x => (Value.ref x.2.1, x.2.2))[j]? = some (k, v) → ∃ t, ts[j]? = some t ∧ PairAt h t k v
  | _, _, .nil => ⟨[], .nil, fun j k v e => by simp at e⟩
  | _, _, .cons (a := t) (b := e) h1 t1 => by
    obtain ⟨ps, r, hp⟩ := pairs_vals hok t1
    obtain ⟨_, its, rv, ht⟩ := hok _ _ h1
    obtain ⟨u, y, rfl, ru, ry⟩ := vals2 rv
    obtain rfl : u = Value.ref e.2.1 := ru
    refine ⟨(e.1, e.2.1, y) :: ps, .cons ⟨rfl, rfl, ry⟩ r, fun j k v q => ?_⟩
    cases j with
    | zero =>
      have q' : (Value.ref e.2.1, y) = (k, v) := Option.some.inj q
      cases q'
      exact ⟨t, rfl, .inl ht⟩
    | succ j =>
      obtain ⟨t', e1, e2⟩ := hp j k v (by simpa using q)
      exact ⟨t', by simpa using e1, e2⟩
theorem call_dictN (hc : X.calm = true) (hr : Room k X.A) : CallR X (.type "dict") (rDictN X.K X.prog X.w) := by
  intro pins s σ H xs us Q I r h
  obtain ⟨a, ts, es, rfl, hs, hp, he, q⟩ := h
  obtain ⟨u, rfl, ru⟩ := vals1 r
  obtain rfl : u = Value.ref a := ru
  obtain ⟨its, rv, pl, hz⟩ := I.list hs
  have ei := refs_at rv
  subst ei
  rw [List.length_map] at hz
  obtain ⟨ps, rel, hpr⟩ := pairs_vals I.hok hp
  have l1 : ts.length = es.length := hp.length
  have l2 : es.length = ps.length := rel.length
  have PA := PairArg.list (prog := X.prog) (w := X.w) a (ts.map Value.ref).toArray (fun j => ts.getD j 0) (ps.map fun x => (Value.ref x.2.1, x.2.2))
  have hroom : (nestedKind X.prog X.w).room X.A.in1.in1 := by
    have h := hr.units
    show X.A.units + 1 + 1 + 8 < cLine
    omega
  have okI : ∀ x ∈ ps, NestedIs s.heap x.1 (.ref x.2.1) ∧ x.1.depth ≤ 8 := by
    have gen : ∀ {es : List NE} {ps : List (NestedKey × Addr × Value)}, Paired entRel es ps → EOk H es → ∀ x ∈ ps, NestedIs s.heap x.1 (.ref x.2.1) ∧ x.1.depth ≤ 8 := by
      intro es ps rel
      induction rel with
      | nil => intro _ x hx; cases hx
      | cons r t ih =>
        intro he x hx
        rcases List.mem_cons.mp hx with z | z
        · subst z
          obtain ⟨e1, e2⟩ := he _ List.mem_cons_self
          rw [r.1, r.2.1] at e1
          rw [r.1] at e2
          exact ⟨NK.is I.hok _ _ _ e1 rfl, e2⟩
        · exact ih (fun e h => he e (List.mem_cons_of_mem _ h)) x z
    exact gen rel he
  refine call_dict_pairsH (knd := nestedKind X.prog X.w) (ps := ps) PA (I.ok.hd hc) hroom ⟨?_, ?_⟩ ⟨by simp, fun i key v hi => ?_⟩ (fun h' hk x hx => ⟨NestedIs.at (fun b o vs n e _ => hk b o (Nat.ne_of_lt (Heap.lt_size e)) (fun z => nomatch z) e) _ _ (okI x hx).1, (okI x hx).2⟩) (by rw [List.length_map]; omega) fun h' tk hd' kk => ?_
  · obtain ⟨o, n, ho, hcl, hdi, hdat⟩ := pl
    exact ⟨o, n, ho, hcl, hdi, hdat⟩
  · refine ⟨by simp; omega, fun j key v hj => ?_⟩
    obtain ⟨t, e1, e2⟩ := hpr j key v hj
    have e3 : ts.getD j 0 = t := by rw [List.getD_eq_getElem?_getD, e1]; rfl
    refine ⟨by simp [e1], ?_⟩
    show PairAt s.heap (ts.getD j 0) key v
    rw [e3]
    exact e2
  · have hi' : (ps.map fun x => (Value.ref x.2.1, x.2.2))[i]? = some (key, v) := hi
    rw [List.getElem?_map] at hi'
    obtain ⟨x, hx, e⟩ := Option.map_eq_some_iff.mp hi'
    have e1 : Value.ref x.2.1 = key := congrArg Prod.fst e
    have e2 : x.2.2 = v := congrArg Prod.snd e
    exact ⟨x.1, x.2.1, by rw [hx, ← e2], e1.symm⟩
  · have hm : (s.heap.objs.size == sysModules) = false := beq_eq_false_iff_ne.mpr (Nat.ne_of_gt I.big)
    obtain ⟨o', ds, ep, ho, hx, hdat, hlist, his, hn⟩ := hd'
    have hlen := length_putAll es []
    rw [List.length_nil] at hlen
    exact ⟨.ref s.heap.objs.size, _, I.laid (t' := tk) (fun b o e => kk b o (fun z => nomatch z) e) (Nat.le_refl _) (dn_ok hm (by omega) ⟨_, putAll_rel .nil rel, o', ds, ep, ho, hx, hdat, hlist, hn⟩), rfl, q _ (I.hok.fresh (Nat.le_refl _))⟩
end

section
variable {X : Cx} {k : Nat}
/-- {k: v}, k a tuple -/
def tDisp1 (P : Program) (w : World) (tk tv : TE) : TE := fun σ H Q => ∀ p, H p = none → tk σ (upd H p (DN P w p [])) fun x H1 => tv σ H1 fun y H2 => ∃ a q, x = .ref a ∧ H2 p = some (DN P w p []) ∧ NK H2 q (.ref a) ∧ q.depth ≤ 8 ∧ Q (.ref p) (upd H2 p (DN P w p [(q, a, y)]))
theorem pe_disp1 {ke ve : Expr} {tk tv : TE} {pos : Pos} (hr : Room k X.A) (hk : PE X ke tk) (hv : PE X ve tv) : PE X (.Dict [some ke] [ve] pos) (tDisp1 X.prog X.w tk tv) := by
  refine ⟨fun pins s σ H Q I h => ?_⟩
  have hroom : (nestedKind X.prog X.w).room X.A := by
    have h := hr.units
    show X.A.units + 8 < cLine
    omega
  have hm : (s.heap.objs.size == sysModules) = false := beq_eq_false_iff_ne.mpr (Nat.ne_of_gt I.big)
  have hn : H s.heap.objs.size = none := I.hok.fresh (Nat.le_refl _)
  have new0 : ObjOk X.prog X.w (upd H s.heap.objs.size (DN X.prog X.w s.heap.objs.size [])) (s.heap.push { cls := .type "dict", data := .dict #[] }) s.heap.objs.size (DN X.prog X.w s.heap.objs.size []) :=
    dn_ok hm (Nat.zero_le _) ⟨[], .nil, _, #[], 0, Heap.get?_push_size _ rfl, ⟨rfl, rfl, rfl⟩, rfl, rfl, List.nodup_nil⟩
  have I1 := I.laid (t' := s.toks) (h' := s.heap.push { cls := .type "dict", data := .dict #[] }) (fun _ _ q => Heap.get?_push_of_some _ q) (Nat.le_refl _) new0
  have hz := zip_pairTrees [some ke] [ve] X.env pos rfl rfl
  have hlen := pairTrees_length [some ke] [ve] X.env pos rfl rfl
  have hne : pairTrees [some ke] [ve] X.env pos ≠ [] := fun e => by rw [e] at hlen; cases hlen
  rw [arm_eval_Dict, hz, dictDisplay_pairs _ hne (by rw [hlen]; simp)]
  refine wpAny_bind (wpAny_standAt (wpAny_bind (wpAny_subDictH (knd := nestedKind X.prog X.w) hroom (by rw [hlen]; simp) ?_)))
  refine pairTrees_cons_walk (thn (hk.run pins _ σ _ _ I1 (h _ hn)) fun u s1 ⟨x, H1, I2, rx, q1⟩ => thn (hv.run pins s1 σ H1 _ I2 q1) fun u2 s2 ⟨y, H2, I3, ry, q2⟩ => pairTrees_nil_walk ?_)
  obtain ⟨a, q, rfl, hd, hk2, hdep, hQ⟩ := q2
  obtain rfl : u = Value.ref a := rx
  have he0 : EOk H2 ([] : List NE) := fun e he => nomatch he
  obtain ⟨a1, a2, xs, rel, dm⟩ := dn_get I3.hok hd he0
  cases rel
  refine ⟨[(q, a, u2)], ⟨rfl, rfl, ⟨NK.is I3.hok _ _ _ hk2 rfl, hdep⟩, trivial⟩, dm, fun h' tk hd' hs => wpAny_pure ?_⟩
  obtain ⟨o', ds, ep, ho, hx, hdat, hlist, his, hnd⟩ := hd'
  have e1 : storedAllH ([] : List (NestedKey × Addr × Value)) [(q, a, u2)] = [(q, a, u2)] := rfl
  rw [e1] at hlist hnd
  exact ⟨.ref s.heap.objs.size, _, I3.write (t' := tk) (x := s.heap.objs.size) (e := s.heap.objs.size) (by rw [hd]; exact dn_mut) (.inl rfl) (fun b o hb e => (hs.2 b hb).trans e) ⟨o', ho⟩
    (dn_ok a1 (by show 1 ≤ sizeLine; decide) ⟨_, .cons ⟨rfl, rfl, ry⟩ .nil, o', ds, ep, ho, hx, hdat, hlist, hnd⟩), rfl, hQ⟩
end
end K23
/-! for i, x in enumerate(a tuple). -/
namespace PySem
open Sem (wp)
open AutoSeq1 (wpAny_loadPart')
theorem k23_enum_new (t : Addr) (items : Array Value) :
    Meets (Builtin.«enumerate.__new__» ⟨[.type "enumerate", .ref t], []⟩) (fun _ R s => s.heap.IsTuple t items ∧
      R (.ok (.ret (.ref (s.heap.push { cls := .type "tuple_iterator", data := .fields #[.ref t, .int 0 0] }).objs.size)))
        { s with heap := (s.heap.push { cls := .type "tuple_iterator", data := .fields #[.ref t, .int 0 0] }).push { cls := .type "enumerate", data := .fields #[.none, .bool false, .ref s.heap.objs.size, rawInt 0, .none, .none] } }) :=
  .of_wp fun prog w A R s h => by
    obtain ⟨hp, g, d, tk, os⟩ := s
    obtain ⟨hT, h⟩ := h
    have hsub := sub_enumerate
    wp_walk using wpAny_pyIter_tuple hT
    refine wpAny_stack_any fun st => wpAny_pure ?_
    split
    · rename_i c _ _ _ _ _
      cases (c == Value.type "enumerate")
      · wp_walk using wpAny_pyIter_tuple hT
        exact ⟨_, rfl, h⟩
      · wp_walk using wpAny_pyIter_tuple hT
        exact ⟨_, rfl, h⟩
    · wp_walk using wpAny_pyIter_tuple hT
      exact ⟨_, rfl, h⟩
end PySem
namespace K23
open PySem PySem.Spec PyProof.Rows L2
section
variable {prog : Program} {w : World} {A : Around} {E : Value → Shared → Prop} {s : Shared}
theorem enum_tup {t : Addr} {items : Array Value} {Q : Value → Shared → Prop} (hT : s.heap.IsTuple t items)
    (h : ∀ h', IsEnum h' (s.heap.objs.size + 1) s.heap.objs.size 0 .none → h'.IsTupleIter s.heap.objs.size t 0 → (∀ b o, s.heap.get? b = some o → h'.get? b = some o) → Q (.ref (s.heap.objs.size + 1)) { s with heap := h' }) :
    wpAny (model prog w) A (call (.type "enumerate") [.ref t]) Q E s := by
  refine callType_new PySem.F.called_enumerate (by decide) (PySem.F.typeCall_enumerate_1 _) (PySem.F.newCall_enumerate_1 _) (fun obj => PySem.F.args_object_init_2 obj _) PySem.F.entry_enumerate_new (k23_enum_new t items) ⟨hT, ?_⟩
  generalize hh1 : s.heap.push { cls := .type "tuple_iterator", data := .fields #[.ref t, .int 0 0] } = h1
  have z1 : h1.objs.size = s.heap.objs.size + 1 := by rw [← hh1]; exact Heap.size_push ..
  have k1 : ∀ b o, s.heap.get? b = some o → h1.get? b = some o := fun b o e => by
    rw [← hh1]; exact Heap.get?_push_of_some _ e
  have it1 : h1.get? s.heap.objs.size = some { cls := .type "tuple_iterator", data := .fields #[.ref t, .int 0 0] } := by
    rw [← hh1]; exact Heap.get?_push_size _ rfl
  have he : IsEnum (h1.push { cls := .type "enumerate", data := .fields #[.none, .bool false, .ref s.heap.objs.size, rawInt 0, .none, .none] }) (s.heap.objs.size + 1) s.heap.objs.size 0 .none := by
    rw [← z1]
    exact Heap.get?_push_size _ rfl
  show _ ∧ _
  rw [z1]
  exact ⟨⟨_, he, rfl⟩, h _ he ⟨_, Heap.get?_push_of_some _ it1, rfl, rfl⟩ fun b o x => Heap.get?_push_of_some _ (k1 b o x)⟩
end
/-- the tuple at a, each item in a new pair with its place -/
def Iteu (K : PySem.W.Frag) (a : Addr) : It :=
  ⟨fun i H => ∃ (xs : List V) (x : V), SqT K H a xs ∧ xs[i]? = some x, fun i H v H' => ∃ T x, v = .ref T ∧ H T = none ∧ H' = upd H T (.tup [.int (i : Nat), x]) ∧ ∀ xs, SqT K H a xs → xs[i]? = some x, fun i H => ∃ xs : List V, SqT K H a xs ∧ xs.length = i⟩
theorem turn_enumT {P : Program} {w : World} {K : PySem.W.Frag} {elts : List Expr} {kk : Nat} {tpos : Pos} (a e it : Addr) :
    Turn P w K (.Tuple elts kk tpos) (Iteu K a) [e, it] e (fun i h => (∃ old, IsEnum h e it ((i : Nat) : Int) old) ∧ h.IsTupleIter it a i ∧ e ≠ it ∧ a ≠ it ∧ a ≠ e) where
  mem := by simp
  obj := fun i h st b hb => by
    obtain ⟨⟨old, he⟩, ⟨o, ho, hc, hd⟩, _⟩ := st
    rcases List.mem_cons.mp hb with z | z
    · subst z; exact ⟨_, he, fun v q => nomatch q⟩
    · have z' : b = it := by simpa using z
      subst z'; exact ⟨o, ho, fun v q => by rw [hd] at q; cases q⟩
  keep := fun i h h' st k => let ⟨⟨old, he⟩, hi, hne⟩ := st; ⟨⟨old, k e (by simp) _ he⟩, hi.at fun o q => k it (by simp) o q, hne⟩
  item := by
    intro X hP hw hK hc i pins s σ H E I hf st hg
    subst hP hw hK
    obtain ⟨⟨old, he⟩, hit, hne, hai, hae⟩ := st
    obtain ⟨xs, x, hq, hx⟩ := hg
    obtain ⟨its, rv, pl, hz⟩ := I.tuple hq
    have hT : s.heap.IsTuple a its.toArray := pl
    obtain ⟨u, hu, ru⟩ := rv.get hx
    have hel : e < s.heap.objs.size := Heap.lt_size he
    have hil : it < s.heap.objs.size := let ⟨_, q, _⟩ := hit; Heap.lt_size q
    have hi : i < its.toArray.size := by
      have := (List.getElem?_eq_some_iff.mp hu).1
      simpa using this
    refine wpAny_pyNext_enum_itemD (Draws.tuple (A := X.A.in1) (I.ok.hd hc) it a hai its.toArray) he ⟨hit, hT⟩ hi hne (by simp [hne, Ne.symm hae]) fun y h1 tk hy ho hst hTT hsz hk => ?_
    obtain rfl : u = y := by
      have hu' : its.toArray[i]? = some u := by simpa using hu
      rw [hu'] at hy
      exact Option.some.inj hy
    refine ⟨_, rfl, wpAny_letOwnedTupleGo_enum (s := { s with heap := h1, toks := tk + 1 }) ho fun h2 he2 sb => ?_⟩
    have hT2 : h2.get? s.heap.objs.size = some { cls := .type "tuple", data := .seq #[.int i tk, u] } := (sb.2 _ (Nat.ne_of_gt hel)).trans hTT
    have new : ObjOk X.prog X.w (upd H s.heap.objs.size (.tup [.int (i : Nat), x])) h2 s.heap.objs.size (.tup [.int (i : Nat), x]) :=
      ⟨by show 2 ≤ sizeLine; decide, [.int i tk, u], .cons ⟨_, rfl⟩ (.cons ru .nil), ⟨_, hT2, rfl, _, rfl⟩⟩
    have I1 : Inv X pins σ (upd H s.heap.objs.size (.tup [.int (i : Nat), x])) { s with heap := h2, toks := tk + 1 } :=
      I.turnedNew (ch := [e, it]) (fun b ob hb q => (sb.2 b (fun z => hb (by simp [z]))).trans (hk b ob (fun z => hb (by simp [z])) (fun z => hb (by simp [z])) q)) hf (Nat.le_refl _) new
    refine ⟨.ref s.heap.objs.size, _, I1, rfl, ⟨_, x, rfl, I.hok.fresh (Nat.le_refl _), rfl, fun ys hy2 => by rw [I.tuple_inj hy2 hq]; exact hx⟩, ⟨⟨u, ?_⟩, hst.1.at fun o q => (sb.2 it (Ne.symm hne)).trans q, hne, hai, hae⟩, fun b hb => ?_⟩
    · have e1 : ((i + 1 : Nat) : Int) = (i : Int) + 1 := by omega
      rw [e1]; exact he2
    · have hb' : b < s.heap.objs.size := by
        rcases List.mem_cons.mp hb with z | z
        · rw [z]; exact hel
        · have z' : b = it := by simpa using z
          rw [z']; exact hil
      rw [upd_ne (Nat.ne_of_lt hb')]
      exact (hf b hb).1
  done := by
    intro X hP hw hK hc i pins s σ H E I hf st hg
    subst hP hw hK
    obtain ⟨⟨old, he⟩, hit, hne, hai, hae⟩ := st
    obtain ⟨xs, hq, hx⟩ := hg
    obtain ⟨its, rv, pl, hz⟩ := I.tuple hq
    have hT : s.heap.IsTuple a its.toArray := pl
    obtain ⟨f0, f1, f2, f3, f4, f5⟩ := hf it (by simp)
    have hl := rv.length
    have hsz : its.toArray.size = i := by simp; omega
    exact wpAny_pyNext_enum_endD (Draws.tuple (A := X.A.in1) (I.ok.hd hc) it a hai its.toArray) he ⟨by rw [hsz]; exact hit, hT⟩ fun h1 eb => ⟨rfl, I.turned (t' := s.toks) (fun b o hb q => eb b o hb q) f0 f1 f3 f4 f5⟩
  self := fun A i s Q E st h => let ⟨⟨_, he⟩, _⟩ := st; wpAny_pyIter_enum he h

def iEnumT (K : PySem.W.Frag) (ta : TA) : TI := fun σ H R => ta σ H fun vs H1 => ∃ a xs, vs = [.ref a] ∧ SqT K H1 a xs ∧ R (Iteu K a) H1
theorem pi_enumT {X : Cx} {e : Expr} {ta : TA} {p pos tpos : Pos} {elts : List Expr} {kk : Nat} (hg : Gl X "enumerate") (hm : X.mg "enumerate" = none) (ha : PA X [e] ta) (hs : starEach [e] X.env = [(false, eval e X.env)] := by rfl) :
    PI X (.Tuple elts kk tpos) (.Call (.Name "enumerate" p) [e] [] pos) (iEnumT X.K ta) := by
  refine ⟨fun pins s σ H R I h => ?_⟩
  refine Call_ (ld_blt I hg hm boot_enumerate (PyProof.Rows.callWith_type1 (thn (ha.run pos pins s σ H _ I h) fun us s1 ⟨vs, H1, I1, r1, q1⟩ => ?_) hs rfl))
  obtain ⟨a, xs, rfl, hq, q⟩ := q1
  obtain ⟨u, rfl, ru⟩ := vals1 r1
  obtain rfl : u = Value.ref a := ru
  obtain ⟨its, rv, pl, hz⟩ := I1.tuple hq
  have hT : s1.heap.IsTuple a its.toArray := pl
  have hal : a < s1.heap.objs.size := let ⟨_, ho, _⟩ := pl; Heap.lt_size ho
  refine enum_tup hT fun h' he hit hk => wpAny_pyIter_enum he ?_
  have I2 : Inv X pins σ H1 { s1 with heap := h' } := I1.kept (t' := s1.toks) hk
  refine ⟨s1.heap.objs.size + 1, [s1.heap.objs.size + 1, s1.heap.objs.size], _, _, H1, rfl, I2, turn_enumT a (s1.heap.objs.size + 1) s1.heap.objs.size, ⟨⟨.none, he⟩, hit, Nat.succ_ne_self _, Nat.ne_of_lt hal, Nat.ne_of_lt (Nat.lt_succ_of_lt hal)⟩, fun b hb => ?_, q⟩
  have hle : s1.heap.objs.size ≤ b := by
    rcases List.mem_cons.mp hb with z | z
    · rw [z]; exact Nat.le_add_right _ _
    · have z' : b = s1.heap.objs.size := by simpa using z
      rw [z']; exact Nat.le_refl _
  exact I1.fpOk hle (I1.hok.fresh hle)
theorem walk_enumT {K : PySem.W.Frag} {a : Addr} {xs : List V} : Walk (Iteu K a) xs.length (fun H => SqT K H a xs) (YPair (fun i => some (.int (i : Nat))) (fun i => xs[i]?)) := by
  refine ⟨fun i _ hi q => ⟨xs, xs[i], q, by simp [hi]⟩, fun _ q => ⟨xs, q, rfl⟩, fun i H v H' _ q y => ?_⟩
  obtain ⟨T, x, h1, h2, h3, h4⟩ := y
  exact ⟨T, .int (i : Nat), x, h1, h2, h3, rfl, h4 xs q⟩
end K23
/-! The program's text, what its module's names hold, heaps that grow. -/
namespace K23
open PySem PySem.Spec PyProof.Rows L2

def topS (i : Nat) : Stmt := PySem.Challenge.pw_eventcore_k23_whole_waiting.main.body.getD i (.Pass ⟨0, 0, 0, 0⟩)
abbrev sIsIn : Stmt := topS 4
abbrev sRow : Stmt := topS 8
abbrev sIsLong : Stmt := topS 11
abbrev sNeed : Stmt := topS 12
abbrev sSearch : Stmt := topS 13
abbrev sWhole : Stmt := topS 14
abbrev sShows : Stmt := topS 15
abbrev sWaits : Stmt := topS 16
abbrev sTaken : Stmt := topS 18
abbrev sPick : Stmt := topS 19
abbrev sAlike : Stmt := topS 20
abbrev sJobs : Stmt := topS 21
abbrev sAll : Stmt := topS 22
abbrev sIsSt : Stmt := topS 23
abbrev sLaw : Stmt := topS 24

theorem scIsIn : FnScope ["value", "least", "most"] ["value", "least", "most"] (defScope sIsIn) := ⟨rfl, rfl, rfl, by decide +kernel, rfl, by decide +kernel, by decide +kernel⟩
theorem scRow : FnScope ["value", "many"] ["value", "many"] (defScope sRow) := ⟨rfl, rfl, rfl, by decide +kernel, rfl, by decide +kernel, by decide +kernel⟩
theorem scIsLong : FnScope ["job"] ["job"] (defScope sIsLong) := ⟨rfl, rfl, rfl, by decide +kernel, rfl, by decide +kernel, by decide +kernel⟩
theorem scNeed : FnScope ["jobs", "index", "job"] ["jobs"] (defScope sNeed) := ⟨rfl, rfl, rfl, by decide +kernel, rfl, by decide +kernel, by decide +kernel⟩
theorem scSearch : FnScope ["jobs", "may_wait", "stack", "now", "chosen", "job", "start", "begun", "k", "left", "least"] ["jobs", "may_wait"] (defScope sSearch) := ⟨rfl, rfl, rfl, by decide +kernel, rfl, by decide +kernel, by decide +kernel⟩
theorem scWhole : FnScope ["jobs"] ["jobs"] (defScope sWhole) := ⟨rfl, rfl, rfl, by decide +kernel, rfl, by decide +kernel, by decide +kernel⟩
theorem scShows : FnScope ["jobs", "value", "k", "arrival", "length", "due", "some"] ["jobs", "value"] (defScope sShows) := ⟨rfl, rfl, rfl, by decide +kernel, rfl, by decide +kernel, by decide +kernel⟩
theorem scWaits : FnScope ["jobs"] ["jobs"] (defScope sWaits) := ⟨rfl, rfl, rfl, by decide +kernel, rfl, by decide +kernel, by decide +kernel⟩
theorem scTaken : FnScope ["_law_row", "_law_many", "_law_found", "_law_cell"] ["_law_row", "_law_many"] (defScope sTaken) := ⟨rfl, rfl, rfl, by decide +kernel, rfl, by decide +kernel, by decide +kernel⟩
theorem scPick : FnScope ["_law_row", "_law_things"] ["_law_row", "_law_things"] (defScope sPick) := ⟨rfl, rfl, rfl, by decide +kernel, rfl, by decide +kernel, by decide +kernel⟩
theorem scAlike : FnScope ["_law_found", "_law_due", "_law_k"] ["_law_found", "_law_due"] (defScope sAlike) := ⟨rfl, rfl, rfl, by decide +kernel, rfl, by decide +kernel, by decide +kernel⟩
theorem scJobs : FnScope ["_law_row", "_law_found", "_law_way", "_law_k", "_law_length", "_law_arrival", "_law_slack"] ["_law_row"] (defScope sJobs) := ⟨rfl, rfl, rfl, by decide +kernel, rfl, by decide +kernel, by decide +kernel⟩
theorem scAll : FnScope ["_law_jobs_here", "_law_layer", "_law_turn", "_law_more", "_law_some", "_law_now", "_law_waits", "_law_left", "_law_least", "_law_k", "_law_start", "_law_key"] ["_law_jobs_here"] (defScope sAll) := ⟨rfl, rfl, rfl, by decide +kernel, rfl, by decide +kernel, by decide +kernel⟩
theorem scIsSt : FnScope ["_law_jobs_here", "_law_value", "_law_some", "_law_k", "_law_one"] ["_law_jobs_here", "_law_value"] (defScope sIsSt) := ⟨rfl, rfl, rfl, by decide +kernel, rfl, by decide +kernel, by decide +kernel⟩
theorem scLaw : FnScope ["_law_script", "_law_row", "_law_turn", "_law_jobs_here", "_law_some", "_law_found", "_law_due", "_law_base", "_law_at", "_law_values", "_law_value", "_law_key", "_law_job", "_law_pair"] ["_law_script"] (defScope sLaw) := ⟨rfl, rfl, rfl, by decide +kernel, rfl, by decide +kernel, by decide +kernel⟩

/-- the built-ins' names are nobody's own; the three constants -/
structure Gn (mg : Str → Option Value) : Prop where
  isi : mg "isinstance" = none
  int : mg "int" = none
  bool : mg "bool" = none
  str : mg "str" = none
  tuple : mg "tuple" = none
  list : mg "list" = none
  dict : mg "dict" = none
  len : mg "len" = none
  range : mg "range" = none
  sorted : mg "sorted" = none
  max : mg "max" = none
  min : mg "min" = none
  all : mg "all" = none
  enum : mg "enumerate" = none
  time : ∃ t, mg "MOST_TIME" = some (.int 100 t)
  lng : ∃ t, mg "MOST_LENGTH" = some (.int 20 t)
  long : ∃ t, mg "MOST_LONG" = some (.int 7 t)

/-! ### heaps that grow: all that was tracked is as it was, but for the tables of code objects -/
def Tb (T : List Addr) (H : Hp) : Prop := ∀ P ∈ T, GxR.TabG H P
structure Ext (T : List Addr) (H H' : Hp) : Prop where
  keep : ∀ b o, H b = some o → (∀ ps, o ≠ .tbl ps) → H' b = some o
  tabs : Tb T H → Tb T H'
  old : ∀ b, H' b = none → H b = none
section
variable {T : List Addr} {H H1 H2 : Hp} {p : Addr} {o : HO}
theorem Ext.refl (T : List Addr) (H : Hp) : Ext T H H := ⟨fun _ _ e _ => e, fun h => h, fun _ h => h⟩
theorem Ext.trans (a : Ext T H H1) (b : Ext T H1 H2) : Ext T H H2 := ⟨fun c o e n => b.keep c o (a.keep c o e n) n, fun h => b.tabs (a.tabs h), fun c h => a.old c (b.old c h)⟩
theorem Ext.put (e : Ext T H H1) (h : H p = none) : Ext T H (upd H1 p o) := by
  refine ⟨fun b x q n => ?_, fun tb P hP => ?_, fun b q => ?_⟩
  · have hb : b ≠ p := ne_of_none q h
    rw [upd_ne hb]
    exact e.keep b x q n
  · obtain ⟨ps, q, _⟩ := tb P hP
    have hb : P ≠ p := ne_of_none q h
    obtain ⟨ps', q', t'⟩ := e.tabs tb P hP
    exact ⟨ps', by rw [upd_ne hb]; exact q', t'⟩
  · by_cases hb : b = p
    · rw [hb]; exact h
    · rw [upd_ne hb] at q; exact e.old b q
theorem Ext.new (h : H p = none) : Ext T H (upd H p o) := (Ext.refl T H).put h
theorem Ext.tab {P : Addr} (h : GxR.Tabbed P H H1) (hH : GxR.TabG H P) : Ext T H H1 := by
  obtain ⟨ps, q, t⟩ := hH
  obtain ⟨⟨ps', q', t'⟩, hr⟩ := h
  refine ⟨fun b x e n => ?_, fun tb Q hQ => ?_, fun b z => ?_⟩
  · have hb : b ≠ P := fun z => by
      rw [z, q] at e
      exact n ps (Option.some.inj e).symm
    rw [hr b hb]
    exact e
  · by_cases hb : Q = P
    · rw [hb]; exact ⟨ps', q', t'⟩
    · obtain ⟨qs, z, tz⟩ := tb Q hQ
      exact ⟨qs, by rw [hr Q hb]; exact z, tz⟩
  · by_cases hb : b = P
    · rw [hb, q'] at z; cases z
    · rw [hr b hb] at z; exact z
theorem Ext.lst (e : Ext T H H1) {xs : List V} (h : H p = some (.lst xs)) : H1 p = some (.lst xs) := e.keep _ _ h fun _ z => nomatch z
theorem Ext.tup (e : Ext T H H1) {xs : List V} (h : H p = some (.tup xs)) : H1 p = some (.tup xs) := e.keep _ _ h fun _ z => nomatch z
theorem Ext.dn (e : Ext T H H1) {P : Program} {w : World} {d : Addr} {es : List NE} (h : H p = some (DN P w d es)) : H1 p = some (DN P w d es) := e.keep _ _ h fun _ z => nomatch z
theorem Ext.sqL (e : Ext T H H1) {K : PySem.W.Frag} {xs : List V} (h : SqL K H p xs) : SqL K H1 p xs := by
  rcases h with (h | ⟨o, h⟩) | h
  · exact .inl (.inl (e.lst h))
  · exact .inl (.inr ⟨o, e.keep _ _ h fun _ z => nomatch z⟩)
  · exact .inr h
theorem Ext.sqT (e : Ext T H H1) {K : PySem.W.Frag} {xs : List V} (h : SqT K H p xs) : SqT K H1 p xs := by
  rcases h with (h | ⟨o, h⟩) | h
  · exact .inl (.inl (e.tup h))
  · exact .inl (.inr ⟨o, e.keep _ _ h fun _ z => nomatch z⟩)
  · exact .inr h
end

/-- a def whose code object stands at c (it holds generator expressions) -/
structure FunT (K : PySem.W.Frag) (x qual : Str) (st : Stmt) (f c : Addr) (fd : FuncData) : Prop where
  ex : ∃ (oc : Value) (od : Option Addr) (kV doc pm : Value) (an : Option Addr) (ct : Value) (osl : Array (Option Value)),
    fd = PySem.W.fnOf x qual (defArgs st) (defBody st) (defScope st) .none kV doc pm an (.ref c) ct ∧ K.lookup f = some ⟨oc, od, .func fd, osl⟩ ∧ PySem.W.codeIn K (.ref c) qual = true
  kp : PySem.W.keepIn K (.ref f) = true
theorem FunT.fun {K : PySem.W.Frag} {x qual : Str} {st : Stmt} {f c : Addr} {fd : FuncData} (F : FunT K x qual st f c fd) : Fun K x qual st f fd := by
  obtain ⟨oc, od, kV, doc, pm, an, ct, osl, e, l, h⟩ := F.ex
  exact ⟨⟨oc, od, kV, doc, pm, an, .ref c, ct, osl, e, l, h⟩, F.kp⟩
theorem FunT.ok {P : Program} {w : World} {K : PySem.W.Frag} {mg : Str → Option Value} {base : Heap} {x qual : Str} {st : Stmt} {f c : Addr} {fd : FuncData} {N ps : List Str} {k : Nat} {sp : Sp} (F : FunT K x qual st f c fd) (S : FnScope N ps (defScope st)) (len : ∀ vs H Q E, sp vs H Q E → vs.length = ps.length)
    (body : ∀ (A : Around) (outer : List Env) (s : Shared) (H : Hp) (vs : List V) (Q : VK) (E : XK), Room k (A.deeper (envOfC qual (defScope st) s.heap.objs.size f (.ref c))) → sp vs H Q E →
      ∃ t, PSs (cxOf CX0 P w K mg base N qual (defScope st) f (.ref c) A outer s H E).nox (defBody st) t ∧ t { nx := fun _ H' => Q .non H', rt := Q } (start N vs) H) : FnOk P w K mg base CX0 (k + 1) f fd ps sp := by
  obtain ⟨oc, od, kV, doc, pm, an, ct, osl, rfl, lk, hcd⟩ := F.ex
  refine fn_of lk hcd S len fun A outer s H vs Q E hr hsp => ?_
  obtain ⟨t, h, q⟩ := body A outer s H vs Q E hr hsp
  exact ⟨t, h.nox, q⟩
end K23
/-! is_in, is_long, need_long, is_start_row. -/
namespace K23
open PySem PySem.Spec PyProof.Rows L2
section
variable {P : Program} {w : World} {K : PySem.W.Frag} {mg : Str → Option Value} {base : Heap}

theorem isi_ii {K : PySem.W.Frag} : PySem.W.kitOne K (.type "int") (.type "int") = some true := kit_ty (by decide +kernel)
theorem isi_ib {K : PySem.W.Frag} : PySem.W.kitOne K (.type "int") (.type "bool") = some false := kit_ty (by decide +kernel)
theorem isi_bi {K : PySem.W.Frag} : PySem.W.kitOne K (.type "bool") (.type "int") = some true := kit_ty (by decide +kernel)
theorem isi_bb {K : PySem.W.Frag} : PySem.W.kitOne K (.type "bool") (.type "bool") = some true := kit_ty (by decide +kernel)
theorem isi_ni {K : PySem.W.Frag} : PySem.W.kitOne K (.type "NoneType") (.type "int") = some false := kit_ty (by decide +kernel)
theorem isi_si {K : PySem.W.Frag} : PySem.W.kitOne K (.type "str") (.type "int") = some false := kit_ty (by decide +kernel)
theorem isi_nb {K : PySem.W.Frag} : PySem.W.kitOne K (.type "NoneType") (.type "bool") = some false := kit_ty (by decide +kernel)
theorem isi_sb {K : PySem.W.Frag} : PySem.W.kitOne K (.type "str") (.type "bool") = some false := kit_ty (by decide +kernel)
theorem isi_tt {K : PySem.W.Frag} : PySem.W.kitOne K (.type "tuple") (.type "tuple") = some true := kit_ty (by decide +kernel)
theorem isi_lt {K : PySem.W.Frag} : PySem.W.kitOne K (.type "list") (.type "tuple") = some false := kit_ty (by decide +kernel)
theorem isi_nt {K : PySem.W.Frag} : PySem.W.kitOne K (.type "NoneType") (.type "tuple") = some false := kit_ty (by decide +kernel)
theorem isi_it {K : PySem.W.Frag} : PySem.W.kitOne K (.type "int") (.type "tuple") = some false := kit_ty (by decide +kernel)
theorem isi_dt {K : PySem.W.Frag} : PySem.W.kitOne K (.type "dict") (.type "tuple") = some false := kit_ty (by decide +kernel)

def spIn : Sp := fun vs H Q _ => ∃ i a b : Int, vs = [.int i, .int a, .int b] ∧ Q (.bl (decide (a ≤ i) && decide (i ≤ b))) H
theorem ok_in {f : Addr} {fd : FuncData} {k : Nat} (F : Fun K "is_in" "is_in" sIsIn f fd) (g : Gn mg) : FnOk P w K mg base CX0 (k + 1) f fd ["value", "least", "most"] spIn := by
  refine F.ok scIsIn (fun vs H Q E h => ?_) (fun cdv A outer s H vs Q E hr h => ?_)
  · obtain ⟨i, a, b, rfl, _⟩ := h; rfl
  · obtain ⟨i, a, b, rfl, q⟩ := h
    refine ⟨_,
(pss_one (ps_ret ((pe_and (pe_callB call_isi (by rfl) g.isi (by decide +kernel) (pa_cons (pv 0) (pa_cons (pe_bltn (v := .ty "int") (by rfl) g.int (by decide +kernel) rfl) pa_nil))) (pe_and (pe_not (pe_callB call_isi (by rfl) g.isi (by decide +kernel) (pa_cons (pv 0) (pa_cons (pe_bltn (v := .ty "bool") (by rfl) g.bool (by decide +kernel) rfl) pa_nil)))) (pe_one (pe_chain op_le op_le (pv 1) (pv 0) (pv 2))))))))
      , ?_⟩
    refine ⟨_, rfl, _, _, _, _, true, rfl, .ty _, .base (.int i), isi_ii, true, rfl, iteT ?_⟩
    refine ⟨_, rfl, _, _, _, _, false, rfl, .ty _, .base (.int i), isi_ib, false, rfl, true, rfl, iteT ?_⟩
    refine ⟨_, rfl, _, rfl, _, _, rfl, rfl, _, rfl, ?_⟩
    refine ite2 (fun h1 => ?_) (fun h1 => ?_)
    · refine ⟨_, rfl, _, _, rfl, rfl, ?_⟩
      have e : (decide (a ≤ i) && decide (i ≤ b)) = decide (i ≤ b) := by rw [h1]; simp
      rw [e] at q; exact q
    · have e : (decide (a ≤ i) && decide (i ≤ b)) = false := by rw [Bool.eq_false_iff.mpr h1]; rfl
      rw [e] at q; exact q

/-- three ints that are a long job -/
def LongOk (j : Job) : Prop := 0 ≤ j.1 ∧ j.1 ≤ 100 ∧ 1 ≤ j.2.1 ∧ j.2.1 ≤ 20 ∧ 0 ≤ j.2.2 ∧ j.2.2 ≤ 100
def jobV (j : Job) : List V := [.int j.1, .int j.2.1, .int j.2.2]
def spLong (K : PySem.W.Frag) : Sp := fun vs H Q _ => ∃ (a : Addr) (j : Job), vs = [.ref a] ∧ H a = some (.tup (jobV j)) ∧ LongOk j ∧ Q (.bl true) H
theorem ok_long {f fi : Addr} {fd fdi : FuncData} {k : Nat} (F : Fun K "is_long" "is_long" sIsLong f fd) (g : Gn mg) (FI : Fun K "is_in" "is_in" sIsIn fi fdi) (bI : Binds K fdi ["value", "least", "most"] []) (gI : mg "is_in" = some (.ref fi)) :
    FnOk P w K mg base CX0 (k + 2) f fd ["job"] (spLong K) := by
  have GI : FnOk P w K mg base CX0 (k + 1) fi fdi ["value", "least", "most"] spIn := ok_in FI g
  obtain ⟨t1, m1⟩ := g.time
  obtain ⟨t2, m2⟩ := g.lng
  refine F.ok scIsLong (fun vs H Q E h => ?_) (fun cdv A outer s H vs Q E hr h => ?_)
  · obtain ⟨a, j, rfl, _⟩ := h; rfl
  · obtain ⟨a, ⟨x, y, z⟩, rfl, hT, ⟨h1, h2, h3, h4, h5, h6⟩, q⟩ := h
    have hS : SqT K H a [.int x, .int y, .int z] := SqT.of hT
    refine ⟨_,
(pss_cons (ps_if (PW.pt (pw_or (pt_not (pt_val (pe_callB call_isi (by rfl) g.isi (by decide +kernel) (pa_cons (pv 0) (pa_cons (pe_bltn (v := .ty "tuple") (by rfl) g.tuple (by decide +kernel) rfl) pa_nil))))) (pw_or (pt_cmpR op_ne (pe_callB call_len_seq (by rfl) g.len (by decide +kernel) (pa_cons (pv 0) pa_nil)) pe_int (nomark _)) (pw_or1 (pt_not (pt_val (pe_call GI hr (by rfl) gI FI.kp bI .nil pass0 (pa_cons (pe_ix ix_tup (pv 0) pe_int (fun _ _ => rfl)) (pa_cons pe_int (pa_cons (pe_glob (v := .int 100) (by rfl) m1 ⟨_, rfl⟩) pa_nil)))))))))) (pss_one (ps_ret pe_bl)) pss_nil)
      (pss_one (ps_ret ((pe_and (pe_call GI hr (by rfl) gI FI.kp bI .nil pass0 (pa_cons (pe_ix ix_tup (pv 0) pe_int (fun _ _ => rfl)) (pa_cons pe_int (pa_cons (pe_glob (v := .int 20) (by rfl) m2 ⟨_, rfl⟩) pa_nil)))) (pe_one (pe_call GI hr (by rfl) gI FI.kp bI .nil pass0 (pa_cons (pe_ix ix_tup (pv 0) pe_int (fun _ _ => rfl)) (pa_cons pe_int (pa_cons (pe_glob (v := .int 100) (by rfl) m1 ⟨_, rfl⟩) pa_nil))))))))))
      , ?_⟩
    refine ⟨_, rfl, _, _, _, _, true, rfl, .ty _, .base (.tup hT), isi_tt, true, rfl, iteF ?_⟩
    refine ⟨_, rfl, a, _, rfl, .inr hS, rfl, _, rfl, iteF ?_⟩
    refine ⟨_, rfl, a, _, _, _, rfl, rfl, hS, atI_nat (j := 0) rfl, x, 0, 100, rfl, true, by rw [decide_eq_true h1, decide_eq_true h2]; rfl, iteF ?_⟩
    refine ⟨_, rfl, a, _, _, _, rfl, rfl, hS, atI_nat (j := 1) rfl, y, 1, 20, rfl, true, by rw [decide_eq_true h3, decide_eq_true h4]; rfl, iteT ?_⟩
    refine ⟨_, rfl, a, _, _, _, rfl, rfl, hS, atI_nat (j := 2) rfl, z, 0, 100, rfl, ?_⟩
    rw [decide_eq_true h5, decide_eq_true h6]
    exact q

/-- at a stands a tuple of jobs -/
def JobsAt (H : Hp) (a : Addr) (js : List Job) : Prop := ∃ as : List Addr, H a = some (.tup (as.map V.ref)) ∧ Paired (fun p (j : Job) => H p = some (.tup (jobV j))) as js
theorem paired_get {α β : Type} {R : α → β → Prop} : ∀ {xs : List α} {ys : List β}, Paired R xs ys → ∀ {i : Nat} {y : β}, ys[i]? = some y → ∃ x, xs[i]? = some x ∧ R x y
  | _, _, .nil, i, y, h => by simp at h
  | _, _, .cons r t, 0, y, h => by
    have h' := Option.some.inj h
    subst h'
    exact ⟨_, rfl, r⟩
  | _, _, .cons r t, i + 1, y, h => paired_get t (i := i) (by simpa using h)
theorem paired_get' {α β : Type} {R : α → β → Prop} : ∀ {xs : List α} {ys : List β}, Paired R xs ys → ∀ {i : Nat} {x : α}, xs[i]? = some x → ∃ y, ys[i]? = some y ∧ R x y
  | _, _, .nil, i, y, h => by simp at h
  | _, _, .cons r t, 0, y, h => by
    have h' := Option.some.inj h
    subst h'
    exact ⟨_, rfl, r⟩
  | _, _, .cons r t, i + 1, y, h => paired_get' t (i := i) (by simpa using h)
theorem paired_to {α β : Type} {R S : α → β → Prop} (h : ∀ a b, R a b → S a b) : ∀ {xs : List α} {ys : List β}, Paired R xs ys → Paired S xs ys
  | _, _, .nil => .nil
  | _, _, .cons r t => .cons (h _ _ r) (paired_to h t)
theorem JobsAt.to {T : List Addr} {H H' : Hp} {a : Addr} {js : List Job} (h : JobsAt H a js) (e : Ext T H H') : JobsAt H' a js := by
  obtain ⟨as, h1, h2⟩ := h
  exact ⟨as, e.tup h1, paired_to (fun _ _ q => e.tup q) h2⟩
def JobsOk (js : List Job) : Prop := 1 ≤ js.length ∧ js.length ≤ 7 ∧ ∀ j ∈ js, LongOk j
def spNeed (T : List Addr) : Sp := fun vs H Q _ => ∃ (a : Addr) (js : List Job), vs = [.ref a] ∧ JobsAt H a js ∧ JobsOk js ∧ ∀ H', Ext T H H' → Q .non H'
theorem ok_need {T : List Addr} {f fl fi : Addr} {fd fdl fdi : FuncData} {k : Nat} (F : Fun K "need_long" "need_long" sNeed f fd) (g : Gn mg) (FL : Fun K "is_long" "is_long" sIsLong fl fdl) (bL : Binds K fdl ["job"] []) (gL : mg "is_long" = some (.ref fl))
    (FI : Fun K "is_in" "is_in" sIsIn fi fdi) (bI : Binds K fdi ["value", "least", "most"] []) (gI : mg "is_in" = some (.ref fi)) : FnOk P w K mg base CX0 (k + 3) f fd ["jobs"] (spNeed T) := by
  have GL : FnOk P w K mg base CX0 (k + 2) fl fdl ["job"] (spLong K) := ok_long FL g FI bI gI
  obtain ⟨t3, m3⟩ := g.long
  refine F.ok scNeed (fun vs H Q E h => ?_) (fun cdv A outer s H vs Q E hr h => ?_)
  · obtain ⟨a, js, rfl, _⟩ := h; rfl
  · obtain ⟨a, js, rfl, hJ, ⟨l1, l2, hok⟩, q⟩ := h
    obtain ⟨as, hA, hp⟩ := id hJ
    have hS : SqT K H a (as.map V.ref) := SqT.of hA
    have hl : as.length = js.length := hp.length
    refine ⟨_,
(pss_cons (ps_if (PW.pt (pw_or (pt_not (pt_val (pe_callB call_isi (by rfl) g.isi (by decide +kernel) (pa_cons (pv 0) (pa_cons (pe_bltn (v := .ty "tuple") (by rfl) g.tuple (by decide +kernel) rfl) pa_nil))))) (pw_or1 (pt_not (pt_chain op_le op_le pe_int (pe_callB call_len_seq (by rfl) g.len (by decide +kernel) (pa_cons (pv 0) pa_nil)) (pe_glob (v := .int 7) (by rfl) m3 ⟨_, rfl⟩)))))) (pss_one ps_never) pss_nil)
      (pss_one (ps_for PassesOwn.never rfl (pi_enumT (by rfl) g.enum (pa_cons (pv 0) pa_nil)) (pg_tup rfl (pgs_cons (pg_name (i := 1) scNeed.nd rfl (Or.inl rfl)) (pgs_cons (pg_name (i := 2) scNeed.nd rfl (Or.inl rfl)) pgs_nil)))
      (pss_one (ps_if (pt_not (pt_val (pe_call GL hr (by rfl) gL FL.kp bL .nil pass0 (pa_cons (pv 2) pa_nil)))) (pss_one ps_never) pss_nil)))))
      , ?_⟩
    refine ⟨_, rfl, _, _, _, _, true, rfl, .ty _, .base (.tup hA), isi_tt, true, rfl, iteF ?_⟩
    refine ⟨_, rfl, a, _, rfl, .inr hS, _, _, rfl, rfl, true, ?_, iteT ⟨_, _, rfl, rfl, true, ?_, iteF ?_⟩⟩
    · rw [List.length_map, hl]
      exact congrArg V.bl (decide_eq_true (by omega))
    · rw [List.length_map, hl]
      exact congrArg V.bl (decide_eq_true (by omega))
    refine ⟨_, rfl, a, _, rfl, hS, for_it (walk_enumT (K := K) (xs := as.map V.ref)) (fun i σ H' => ∃ y1 y2, σ = [some (.ref a), y1, y2] ∧ Ext T H H') ⟨none, none, rfl, Ext.refl T H⟩ (fun i σ H' _ h => ?_) (fun i x σ H1 H2 hi h hy => ?_) (fun σ H' h => ?_)⟩
    · obtain ⟨_, _, _, e⟩ := h
      exact e.sqT hS
    · obtain ⟨y1, y2, rfl, e⟩ := h
      obtain ⟨Tp, u, v, rfl, hT, rfl, hu, hv⟩ := hy
      have hu' := Option.some.inj hu
      subst hu'
      have hv : (as.map V.ref)[i]? = some v := hv
      rw [List.getElem?_map] at hv
      obtain ⟨p, hp1, rfl⟩ := Option.map_eq_some_iff.mp hv
      obtain ⟨j, hj, hpj⟩ := paired_get' hp hp1
      have e2 : Ext T H (upd H1 Tp (.tup [.int (i : Nat), .ref p])) := e.trans (Ext.new hT)
      refine ⟨Tp, _, rfl, SqT.of upd_same, rfl, _, _, rfl, _, _, rfl, rfl, ?_⟩
      refine ⟨_, rfl, p, j, rfl, e2.tup hpj, hok j (List.mem_of_getElem? hj), true, rfl, iteF ?_⟩
      exact ⟨_, _, rfl, e2⟩
    · obtain ⟨_, _, _, e⟩ := h
      exact q _ e

/-! ### is_start_row -/
def flat : V → Bool
  | .int _ => true
  | .bl _ => true
  | .non => true
  | .str x => PyData.strOk x
  | _ => false
def isIntV : V → Bool
  | .int _ => true
  | _ => false
/-- what a judge is asked about: a tuple of flat things, or another thing -/
inductive ArgV (H : Hp) : V → Option (List V) → Prop
  | tup {a : Addr} {xs : List V} : H a = some (.tup xs) → (∀ x ∈ xs, flat x = true) → ArgV H (.ref a) (some xs)
  | lst {a : Addr} {xs : List V} : H a = some (.lst xs) → ArgV H (.ref a) none
  | dK {a : Addr} {kvs : List (Key × V)} : H a = some (.dK kvs) → ArgV H (.ref a) none
  | non : ArgV H .non none
  | int (i : Int) : ArgV H (.int i) none
theorem ArgV.to {T : List Addr} {H H' : Hp} {v : V} {r : Option (List V)} (h : ArgV H v r) (e : Ext T H H') : ArgV H' v r := by
  cases h with
  | tup h f => exact .tup (e.tup h) f
  | lst h => exact .lst (e.lst h)
  | dK h => exact .dK (e.keep _ _ h fun _ z => nomatch z)
  | non => exact .non
  | int i => exact .int i
theorem ArgV.isi {H : Hp} {v : V} {r : Option (List V)} (h : ArgV H v r) : ∃ t, TyX K H v t ∧ PySem.W.kitOne K t (.type "tuple") = some r.isSome := by
  cases h with
  | tup h f => exact ⟨_, .base (.tup h), isi_tt⟩
  | lst h => exact ⟨_, .base (.lst h), isi_lt⟩
  | dK h => exact ⟨_, .base (.dK h), isi_dt⟩
  | non => exact ⟨_, .base .non, isi_nt⟩
  | int i => exact ⟨_, .base (.int i), isi_it⟩
def rowOk : Option (List V) → Nat → Bool
  | none, _ => false
  | some xs, n => decide (xs.length = n) && xs.all isIntV
theorem free_by {env : Env} {sc scope : Scope} {n : Nat} (hc : env.cells = cellsFrom n sc.names []) (h : scope.names.all (fun y => decide (y.2 = .free → sc.names.lookup y.1 = some .cell)) = true) : ∀ y ∈ scope.names, y.2 = .free → ∃ c, env.cells.lookup y.1 = some c := fun y hy e => by
  have q := List.all_eq_true.mp h y hy
  have q' := (of_decide_eq_true q) e
  rw [hc]
  exact cell_has q'
theorem all_range (xs : List V) (p : V → Bool) : (List.range xs.length).all (fun i => p (xs.getD i .non)) = xs.all p := by
  rw [Bool.eq_iff_iff, List.all_eq_true, List.all_eq_true]
  constructor
  · intro h x hx
    obtain ⟨i, hi, e⟩ := List.getElem_of_mem hx
    have := h i (List.mem_range.mpr hi)
    rw [List.getD_eq_getElem?_getD, List.getElem?_eq_getElem hi, Option.getD_some, e] at this
    exact this
  · intro h i hi
    have hi' := List.mem_range.mp hi
    show p (xs.getD i .non) = true
    rw [List.getD_eq_getElem?_getD, List.getElem?_eq_getElem hi', Option.getD_some]
    exact h _ (List.getElem_mem hi')
def CRow : L2.St → Hp → Nat → (Nat → Value → Prop) → (Nat → Bool) → Prop := fun _ _ n Pi tr => ∃ xs : List V, n = xs.length ∧ Pi = itemsOf xs ∧ (∀ x ∈ xs, flat x = true) ∧ tr = fun i => isIntV (xs.getD i .non)
theorem elt_row {X : Cx} {Pt : Addr} {scope : Scope} {p1 p2 p3 p4 p5 p6 p7 p8 pp : Pos} (g : Gn X.mg) (h1 : scope.names.lookup (Str.ofString "isinstance") = some .globalImplicit) (h2 : scope.names.lookup (Str.ofString "int") = some .globalImplicit) (h3 : scope.names.lookup (Str.ofString "bool") = some .globalImplicit)
    (h4 : scope.names.lookup (Str.ofString "one") = some .local) : ∀ pins σ H1 s1 n Pi tr, Inv X pins σ H1 s1 → GxR.TabG H1 Pt → CRow σ H1 n Pi tr → EltOk X Pt s1 scope "one" (.BoolOp .And [.Call (.Name "isinstance" p1) [.Name "one" p2, .Name "int" p3] [] p4, .UnaryOp .Not (.Call (.Name "isinstance" p5) [.Name "one" p6, .Name "bool" p7] [] p8) pp] pos) n Pi fun i => IsB (tr i) := by
  intro pins σ H1 s1 n Pi tr I hTab hC cenv A' i v m hA hPi hm
  obtain ⟨ps, hP, _⟩ := hTab
  obtain ⟨xs, rfl, rfl, hf, rfl⟩ := hC
  obtain ⟨y, hy, ry⟩ := hPi
  have hne : H1 Pt ≠ none := by rw [hP]; simp
  have ey : xs.getD i .non = y := by rw [List.getD_eq_getElem?_getD, hy]; rfl
  show GE X Pt s1 scope cenv m A' _ (IsB (isIntV (xs.getD i .non)))
  rw [ey]
  have fy := hf y (List.mem_of_getElem? hy)
  have both : ∀ {t : Value} {b1 b2 : Bool} {Z : Heap → Prop}, PySem.W.KitX X.K v t Z → (∀ h, Z h) → v ≠ .builtin "__main__.__loader__#opaque" → PySem.W.kitOne X.K t (.type "int") = some b1 → PySem.W.kitOne X.K t (.type "bool") = some b2 → (b1 = false → b2 = true ∨ b2 = false) →
      GE X Pt s1 scope cenv m A' (.BoolOp .And [.Call (.Name "isinstance" p1) [.Name "one" p2, .Name "int" p3] [] p4, .UnaryOp .Not (.Call (.Name "isinstance" p5) [.Name "one" p6, .Name "bool" p7] [] p8) pp] pos) (IsB (b1 && (b1 && !b2))) := by
    intro t b1 b2 Z kz hz hu k1 k2 _
    refine ge_and (y := b1 && !b2) (ge_isi I hne h1 g.isi h2 g.int (by decide +kernel) h4 hm ⟨Z, kz, fun _ _ => hz _, hu⟩ k1) (fun e => ?_) (fun e => by rw [e]; rfl)
    subst e
    exact ge_not (ge_isi I hne h1 g.isi h3 g.bool (by decide +kernel) h4 hm ⟨Z, kz, fun _ _ => hz _, hu⟩ k2)
  cases y with
  | int i =>
    obtain ⟨t, rfl⟩ := ry
    exact both PySem.W.kitx_int (fun _ => trivial) (fun z => nomatch z) isi_ii isi_ib (fun z => nomatch z)
  | bl b =>
    obtain rfl : v = Value.bool b := ry
    exact both PySem.W.kitx_bool (fun _ => trivial) (fun z => nomatch z) isi_bi isi_bb (fun z => nomatch z)
  | non =>
    obtain rfl : v = Value.none := ry
    exact both PySem.W.kitx_none (fun _ => trivial) (fun z => nomatch z) isi_ni isi_nb (fun _ => .inr rfl)
  | str x =>
    obtain ⟨t, rfl⟩ := ry
    exact both PySem.W.kitx_str (fun _ => trivial) (fun z => nomatch z) isi_si isi_sb (fun _ => .inr rfl)
  | byt _ => cases fy
  | flt _ => cases fy
  | ref _ => cases fy
  | ty _ => cases fy
def spRow (T : List Addr) : Sp := fun vs H Q _ => ∃ (v : V) (n : Nat) (r : Option (List V)), vs = [v, .int n] ∧ ArgV H v r ∧ Tb T H ∧ ∀ H', Ext T H H' → Q (.bl (rowOk r n)) H'
theorem ok_row {T : List Addr} {f c Pt : Addr} {fd : FuncData} {k : Nat} (F : FunT K "is_start_row" "is_start_row" sRow f c fd) (g : Gn mg) (TB : GxR.TabB base mg c Pt) (hT : Pt ∈ T) : FnOk P w K mg base CX0 (k + 2) f fd ["value", "many"] (spRow T) := by
  refine F.ok scRow (fun vs H Q E h => ?_) (fun A outer s H vs Q E hr h => ?_)
  · obtain ⟨v, n, r, rfl, _⟩ := h; rfl
  · obtain ⟨v, n, r, rfl, hv, tb, q⟩ := h
    refine ⟨_,
(pss_cons (ps_if (PW.pt (pw_or (pt_not (pt_val (pe_callB call_isi (by rfl) g.isi (by decide +kernel) (pa_cons (pv 0) (pa_cons (pe_bltn (v := .ty "tuple") (by rfl) g.tuple (by decide +kernel) rfl) pa_nil))))) (pw_or1 (pt_cmpR op_ne (pe_callB call_len_seq (by rfl) g.len (by decide +kernel) (pa_cons (pv 0) pa_nil)) (pv 1) (nomark _))))) (pss_one (ps_ret pe_bl)) pss_nil)
      (pss_one (ps_ret (pe_allG (C := CRow) hr (by rfl) g.all TB rfl ⟨rfl, rfl, by decide +kernel, rfl, rfl, free_by (sc := defScope sRow) (n := s.heap.objs.size + 1) rfl (by decide +kernel)⟩ (psrc_tup (pv 0)) (elt_row g rfl rfl rfl rfl) (fun _ => rfl)))))
      , ?_⟩
    obtain ⟨t, ty, kt⟩ := hv.isi (K := K)
    refine ⟨_, rfl, _, _, _, _, _, rfl, .ty _, ty, kt, _, rfl, ?_⟩
    cases hv with
    | @tup a xs h f =>
      refine iteF ⟨_, rfl, a, _, rfl, .inr (SqT.of h), _, rfl, rfl, _, rfl, ite2 (fun e => ?_) (fun e => ?_)⟩
      · have e' : rowOk (some xs) n = false := by
          show (decide (xs.length = n) && xs.all isIntV) = false
          have : ¬ xs.length = n := fun z => by
            rw [z, decide_eq_true rfl] at e
            cases e
          rw [decide_eq_false this]; rfl
        have := q H (Ext.refl T H)
        rw [e'] at this
        exact this
      · have e1 : xs.length = n := by
          rcases Decidable.em (xs.length = n) with z | z
          · exact z
          · refine absurd ?_ e
            rw [decide_eq_false (fun (y : V.int (xs.length : Nat) = V.int n) => z (by injection y with y; omega))]
            rfl
        refine ⟨.ref a, rfl, a, xs, rfl, SqT.of h, tb Pt hT, tb Pt hT, _, ⟨xs, rfl, rfl, f, rfl⟩, fun H2 hT2 => ?_⟩
        rw [all_range xs isIntV]
        have := q H2 (Ext.tab hT2 (tb Pt hT))
        have e' : rowOk (some xs) n = xs.all isIntV := by
          show (decide (xs.length = n) && xs.all isIntV) = _
          rw [decide_eq_true e1]; rfl
        rw [e'] at this
        exact this
    | lst h => exact iteT (q H (Ext.refl T H))
    | dK h => exact iteT (q H (Ext.refl T H))
    | non => exact iteT (q H (Ext.refl T H))
    | int i => exact iteT (q H (Ext.refl T H))
end
end K23
/-! search: the stack of begun orders. -/
namespace K23
open PySem PySem.Spec PyProof.Rows L2
section
variable {P : Program} {w : World} {K : PySem.W.Frag} {mg : Str → Option Value} {base : Heap} {T : List Addr} {H H' : Hp}

/-! ### what stands in the heap -/
theorem JobsAt.get {a : Addr} {js : List Job} (h : JobsAt H a js) {k : Nat} (hk : k < js.length) : ∃ xs p, H a = some (.tup xs) ∧ atI xs (k : Int) = some (.ref p) ∧ H p = some (.tup (jobV (jobAt js k))) := by
  obtain ⟨as, h1, h2⟩ := h
  obtain ⟨p, hp, hj⟩ := paired_get h2 (List.getElem?_eq_getElem hk)
  have e : jobAt js k = js[k] := by
    unfold jobAt
    rw [List.getD_eq_getElem?_getD, List.getElem?_eq_getElem hk]
    rfl
  refine ⟨_, p, h1, atI_nat ?_, by rw [e]; exact hj⟩
  rw [List.getElem?_map, hp]
  rfl
/-- tuples stay -/
def TK (H H' : Hp) : Prop := ∀ a xs, H a = some (.tup xs) → H' a = some (.tup xs)
theorem Ext.tk (e : Ext T H H') : TK H H' := fun _ _ h => e.tup h
theorem TK.put {l : Addr} {o : HO} {ys : List V} (h : H l = some (.lst ys)) : TK H (upd H l o) := fun a xs q => by
  rw [upd_ne (ne_of q h (by intro z; cases z))]
  exact q
def PairAtV (H : Hp) (p : Addr) (q : Nat × Int) : Prop := H p = some (.tup [.int (q.1 : Nat), .int q.2])
def PthAt (H : Hp) (ca : Addr) (c : Pth) : Prop := ∃ ps : List Addr, H ca = some (.tup (ps.map V.ref)) ∧ Paired (PairAtV H) ps c
def EntAt (H : Hp) (t : Addr) (e : Int × Pth) : Prop := ∃ ca, H t = some (.tup [.int e.1, .ref ca]) ∧ PthAt H ca e.2
theorem PthAt.to {ca : Addr} {c : Pth} (h : PthAt H ca c) (k : TK H H') : PthAt H' ca c := by
  obtain ⟨ps, h1, h2⟩ := h
  exact ⟨ps, k _ _ h1, paired_to (fun _ _ q => k _ _ q) h2⟩
theorem EntAt.to {t : Addr} {e : Int × Pth} (h : EntAt H t e) (k : TK H H') : EntAt H' t e := by
  obtain ⟨ca, h1, h2⟩ := h
  exact ⟨ca, k _ _ h1, h2.to k⟩
def StkAt (H : Hp) (l : Addr) (st : Stk) : Prop := ∃ ts : List Addr, H l = some (.lst (ts.map V.ref)) ∧ Paired (EntAt H) ts st
theorem StkAt.to {l : Addr} {st : Stk} (h : StkAt H l st) (e : Ext T H H') : StkAt H' l st := by
  obtain ⟨ts, h1, h2⟩ := h
  exact ⟨ts, e.lst h1, paired_to (fun _ _ q => q.to e.tk) h2⟩
theorem paired_snoc {α β : Type} {R : α → β → Prop} : ∀ {xs : List α} {ys : List β} {x : α} {y : β}, Paired R xs ys → R x y → Paired R (xs ++ [x]) (ys ++ [y])
  | _, _, _, _, .nil, h => .cons h .nil
  | _, _, _, _, .cons r t, h => .cons r (paired_snoc t h)
theorem paired_last {α β : Type} {R : α → β → Prop} : ∀ {xs : List α} {ys : List β} {y : β}, Paired R xs (ys ++ [y]) → ∃ xs' x, xs = xs' ++ [x] ∧ Paired R xs' ys ∧ R x y
  | _, [], y, h => by
    cases h with
    | cons r t => cases t; exact ⟨[], _, rfl, .nil, r⟩
  | _, z :: ys, y, h => by
    cases h with
    | cons r t =>
      obtain ⟨xs', x, e, h1, h2⟩ := paired_last t
      exact ⟨_ :: xs', x, by rw [e]; rfl, .cons r h1, h2⟩
theorem small8 {n : Nat} (h : n ≤ 100) : n ≤ sizeLine := Nat.le_trans h (by decide)
theorem small7 {n : Nat} (h : n ≤ 100) : n < sizeLine := Nat.lt_of_le_of_lt h (by decide)

/-! ### the generator expressions' elements -/
def KInts (ks : List Nat) : List V := ks.map fun k => V.int (k : Nat)
def CMin : L2.St → Hp → Nat → (Nat → Value → Prop) → (Nat → Int) → Prop := fun σ H1 n Pi val => ∃ (a : Addr) (js : List Job) (ks : List Nat), σ[0]? = some (some (.ref a)) ∧ JobsAt H1 a js ∧ (∀ k ∈ ks, k < js.length) ∧ n = ks.length ∧ Pi = itemsOf (KInts ks) ∧ val = fun i => arr js (ks.getD i 0)
def CFit : L2.St → Hp → Nat → (Nat → Value → Prop) → (Nat → Bool) → Prop := fun σ H1 n Pi tr => ∃ (a : Addr) (js : List Job) (ks : List Nat) (now : Int), σ[0]? = some (some (.ref a)) ∧ σ[3]? = some (some (.int now)) ∧ JobsAt H1 a js ∧ (∀ k ∈ ks, k < js.length) ∧ n = ks.length ∧ Pi = itemsOf (KInts ks) ∧ tr = fun i => fits js now (ks.getD i 0)
theorem kints_at {ks : List Nat} {i : Nat} {v : Value} (h : itemsOf (KInts ks) i v) : ∃ k t, ks[i]? = some k ∧ ks.getD i 0 = k ∧ v = .int (k : Nat) t := by
  obtain ⟨y, hy, ry⟩ := h
  unfold KInts at hy
  rw [List.getElem?_map] at hy
  obtain ⟨k, hk, rfl⟩ := Option.map_eq_some_iff.mp hy
  obtain ⟨t, rfl⟩ := ry
  exact ⟨k, t, hk, by rw [List.getD_eq_getElem?_getD, hk]; rfl, rfl⟩
section
variable {X : Cx} {Pt : Addr} {scope : Scope}
/-- jobs[k][j], there -/
theorem ge_jobs {pins : List (Addr × Obj)} {σ : L2.St} {H1 : Hp} {s1 : Shared} {cenv : Env} {A' : Around} {m : Str → Option Value} {a : Addr} {js : List Job} {k j : Nat} {t : Tok} {z : Int} {p1 p2 p3 p4 p5 : Pos} {jc : Nat} (I : Inv X pins σ H1 s1) (hP : GxR.TabG H1 Pt)
    (hN : X.N[0]? = some (Str.ofString "jobs")) (hx : X.env.scope.names.lookup (Str.ofString "jobs") = some .cell) (hfree : ∀ y ∈ scope.names, y.2 = .free → ∃ c, X.env.cells.lookup y.1 = some c)
    (h1 : scope.names.lookup (Str.ofString "jobs") = some .free) (h2 : scope.names.lookup (Str.ofString "k") = some .local) (hσ : σ[0]? = some (some (.ref a))) (hJ : JobsAt H1 a js) (hk : k < js.length) (hm : m (Str.ofString "k") = some (.int (k : Nat) t)) (hz : (jobV (jobAt js k))[j]? = some (.int z)) :
    GE X Pt s1 scope cenv m A' (.Subscript (.Subscript (.Name (Str.ofString "jobs") p1) (.Name (Str.ofString "k") p2) p3) (.Constant (.int (j : Nat)) jc p4) p5) (IsI z) := by
  obtain ⟨ps, hPs, _⟩ := hP
  have hPo : ∃ ps, s1.heap.get? Pt = some { cls := .none, data := .fields ps } := ⟨ps, I.hok Pt _ hPs⟩
  obtain ⟨xs, p, hA, hat, hp⟩ := hJ.get hk
  exact ge_item I hPo (ge_item I hPo (ge_free (i := 0) I hPo hN hσ h1 hx hfree (fun u r => r)) (ge_loc h2 hm ⟨_, rfl⟩) (SqT.of hA) hat (fun u r => r) (fun _ _ => rfl)) ge_int (SqT.of hp) (atI_nat hz) (fun u r => r) (fun _ _ => rfl)
theorem elt_min {p1 p2 p3 p4 p5 : Pos} {jc : Nat} (hN : X.N[0]? = some (Str.ofString "jobs")) (hx : X.env.scope.names.lookup (Str.ofString "jobs") = some .cell) (hfree : ∀ y ∈ scope.names, y.2 = .free → ∃ c, X.env.cells.lookup y.1 = some c)
    (h1 : scope.names.lookup (Str.ofString "jobs") = some .free) (h2 : scope.names.lookup (Str.ofString "k") = some .local) :
    ∀ pins σ H1 s1 n Pi val, Inv X pins σ H1 s1 → GxR.TabG H1 Pt → CMin σ H1 n Pi val → EltOk X Pt s1 scope (Str.ofString "k") (.Subscript (.Subscript (.Name (Str.ofString "jobs") p1) (.Name (Str.ofString "k") p2) p3) (.Constant (.int 0) jc p4) p5) n Pi fun i => IsI (val i) := by
  intro pins σ H1 s1 n Pi val I hP hC cenv A' i v m hA hPi hm
  obtain ⟨a, js, ks, hσ, hJ, hlt, rfl, rfl, rfl⟩ := hC
  obtain ⟨k, t, hk, ek, rfl⟩ := kints_at hPi
  show GE X Pt s1 scope cenv m A' _ (IsI (arr js (ks.getD i 0)))
  rw [ek]
  exact ge_jobs (j := 0) I hP hN hx hfree h1 h2 hσ hJ (hlt k (List.mem_of_getElem? hk)) hm rfl
theorem elt_fit {q1 q2 p1 p2 p3 p4 p5 b1 b2 b3 b4 b5 c1 c2 c3 c4 c5 r1 r2 r3 : Pos} {j1 j2 j3 : Nat} (g : Gn X.mg) (hN : X.N[0]? = some (Str.ofString "jobs")) (hN3 : X.N[3]? = some (Str.ofString "now")) (hx : X.env.scope.names.lookup (Str.ofString "jobs") = some .cell) (hx3 : X.env.scope.names.lookup (Str.ofString "now") = some .cell)
    (hfree : ∀ y ∈ scope.names, y.2 = .free → ∃ c, X.env.cells.lookup y.1 = some c) (h1 : scope.names.lookup (Str.ofString "jobs") = some .free) (h3 : scope.names.lookup (Str.ofString "now") = some .free) (h2 : scope.names.lookup (Str.ofString "k") = some .local) (h4 : scope.names.lookup (Str.ofString "max") = some .globalImplicit) :
    ∀ pins σ H1 s1 n Pi tr, Inv X pins σ H1 s1 → GxR.TabG H1 Pt → CFit σ H1 n Pi tr → EltOk X Pt s1 scope (Str.ofString "k")
      (.Compare (.BinOp (.Call (.Name (Str.ofString "max") q1) [.Name (Str.ofString "now") q2, .Subscript (.Subscript (.Name (Str.ofString "jobs") p1) (.Name (Str.ofString "k") p2) p3) (.Constant (.int 0) j1 p4) p5] [] r1) .Add
        (.Subscript (.Subscript (.Name (Str.ofString "jobs") b1) (.Name (Str.ofString "k") b2) b3) (.Constant (.int 1) j2 b4) b5) r2) [.LtE] [.Subscript (.Subscript (.Name (Str.ofString "jobs") c1) (.Name (Str.ofString "k") c2) c3) (.Constant (.int 2) j3 c4) c5] r3) n Pi fun i => IsB (tr i) := by
  intro pins σ H1 s1 n Pi tr I hP hC cenv A' i v m hA hPi hm
  obtain ⟨a, js, ks, now, hσ, hσ3, hJ, hlt, rfl, rfl, rfl⟩ := hC
  obtain ⟨k, t, hk, ek, rfl⟩ := kints_at hPi
  have hkl := hlt k (List.mem_of_getElem? hk)
  have hne : H1 Pt ≠ none := by
    obtain ⟨ps, hPs, _⟩ := hP
    rw [hPs]; simp
  have hPo : ∃ ps, s1.heap.get? Pt = some { cls := .none, data := .fields ps } := by
    obtain ⟨ps, hPs, _⟩ := hP
    exact ⟨ps, I.hok Pt _ hPs⟩
  show GE X Pt s1 scope cenv m A' _ (IsB (fits js now (ks.getD i 0)))
  rw [ek]
  exact ge_le (ge_add (ge_max I hne hA h4 g.max (ge_free (i := 3) I hPo hN3 hσ3 h3 hx3 hfree (fun u r => r)) (ge_jobs (j := 0) I hP hN hx hfree h1 h2 hσ hJ hkl hm rfl)) (ge_jobs (j := 1) I hP hN hx hfree h1 h2 hσ hJ hkl hm rfl)) (ge_jobs (j := 2) I hP hN hx hfree h1 h2 hσ hJ hkl hm rfl)
end
theorem all_rangeN (ks : List Nat) (p : Nat → Bool) : (List.range ks.length).all (fun i => p (ks.getD i 0)) = ks.all p := by
  rw [Bool.eq_iff_iff, List.all_eq_true, List.all_eq_true]
  constructor
  · intro h x hx
    obtain ⟨i, hi, e⟩ := List.getElem_of_mem hx
    have := h i (List.mem_range.mpr hi)
    rw [List.getD_eq_getElem?_getD, List.getElem?_eq_getElem hi, Option.getD_some, e] at this
    exact this
  · intro h i hi
    have hi' := List.mem_range.mp hi
    show p (ks.getD i 0) = true
    rw [List.getD_eq_getElem?_getD, List.getElem?_eq_getElem hi', Option.getD_some]
    exact h _ (List.getElem_mem hi')
theorem min_rangeN {ks : List Nat} {f : Nat → Int} {j : Nat} (hj : j < ks.length) (h : ∀ i, i < ks.length → f (ks.getD j 0) ≤ f (ks.getD i 0)) : f (ks.getD j 0) = mn (ks.map f) := by
  have e : ∀ {i : Nat} (hi : i < ks.length), ks.getD i 0 = ks[i] := fun hi => by rw [List.getD_eq_getElem?_getD, List.getElem?_eq_getElem hi]; rfl
  refine mn_uniq ?_ fun x hx => ?_
  · rw [e hj]
    exact List.mem_map.mpr ⟨_, List.getElem_mem hj, rfl⟩
  · obtain ⟨k, hk, rfl⟩ := List.mem_map.mp hx
    obtain ⟨i, hi, ei⟩ := List.getElem_of_mem hk
    have := h i hi
    rw [e hi, ei] at this
    exact this
end

theorem none_upd {H : Hp} {a b : Addr} {o : HO} (h : upd H a o b = none) : H b = none ∧ b ≠ a := by
  by_cases e : b = a
  · rw [e, upd_same] at h; cases h
  · rw [upd_ne e] at h; exact ⟨h, e⟩
theorem in_kints (k : Nat) : ∀ ks : List Nat, inV (.int (k : Nat)) (KInts ks) = decide (k ∈ ks)
  | [] => rfl
  | x :: ks => by
    show (eqV (.int (x : Nat)) (.int (k : Nat)) || inV (.int (k : Nat)) (KInts ks)) = _
    rw [in_kints k ks]
    have e : eqV (.int (x : Nat)) (.int (k : Nat)) = decide (k = x) := by
      show ((x : Int) == (k : Int)) = _
      by_cases h : k = x
      · subst h; simp
      · rw [decide_eq_false h, beq_eq_false_iff_ne]
        omega
    rw [e]
    by_cases h : k = x <;> simp [h]
theorem kints_flat (ks : List Nat) : (KInts ks).all flatV = true := by
  rw [List.all_eq_true]
  intro x hx
  obtain ⟨k, _, rfl⟩ := List.mem_map.mp hx
  rfl
theorem take_snoc {α : Type} {xs : List α} {i : Nat} {x : α} (h : xs[i]? = some x) : xs.take (i + 1) = xs.take i ++ [x] := by
  rw [List.take_add_one, h]; rfl
theorem zip_vals {ps : List Addr} {c : Pth} (h : ps.length = c.length) : (ps.zip c).map (fun b => V.ref b.1) = ps.map V.ref ∧ (ps.zip c).map Prod.snd = c := by
  constructor
  · rw [show (fun b : Addr × Nat × Int => V.ref b.1) = V.ref ∘ Prod.fst from rfl, ← List.map_map, List.map_fst_zip (by omega)]
  · exact List.map_snd_zip (by omega)
theorem zip_at {H : Hp} {ps : List Addr} {c : Pth} (h : Paired (PairAtV H) ps c) : ∀ b ∈ ps.zip c, H b.1 = some (.tup [.int (b.2.1 : Nat), .int b.2.2]) := by
  induction h with
  | nil => intro b hb; cases hb
  | cons r t ih =>
    intro b hb
    rcases List.mem_cons.mp hb with z | z
    · subst z; exact r
    · exact ih b z
/-! sorted of pairs of ints -/
section
variable {β : Type} {K : PySem.W.Frag} {H : Hp} {a : Addr} {bs : List β} {x y : β → Int}
theorem dp_ii {i j : Int} (h : H a = some (.tup [.int i, .int j])) : Dp K H (.ref a) (.tuple [.int i, .int j]) := .tup (SqT.of h) (.cons (.int _) (.cons (.int _) .nil))
theorem al_ii : PySem.W.AllAlike (bs.map fun b => .tuple [.int (x b), .int (y b)]) := PySem.W.AllAlike.of fun _ _ => by simp [PySem.W.alike, PySem.W.alikeAll]
theorem so_ii : PySem.W.Sortable (bs.map fun b => .tuple [.int (x b), .int (y b)]) := PySem.W.Sortable.tuples fun _ => ⟨_, _, rfl⟩
theorem de_ii {i j : Int} : (PyData.tuple [.int i, .int j]).depth ≤ 8 := by simp [PyData.depth, PyData.depthAll]
theorem ms_ii (bs : List β) (x y : β → Int) : ∃ ss, bs.mergeSort (PySem.W.dataLe false fun b => .tuple [.int (x b), .int (y b)]) = ss ∧ List.Perm ss bs ∧ ss.Pairwise fun p q => x p < x q ∨ (x p = x q ∧ y p ≤ y q) := by
  refine ⟨_, rfl, List.mergeSort_perm _ _, ?_⟩
  have e := PySem.W.dataLe_ii x y
  have := List.pairwise_mergeSort (le := PySem.W.dataLe false fun b => .tuple [.int (x b), .int (y b)]) (by rw [e]; intro a b c h1 h2; simp only [decide_eq_true_eq] at *; omega) (by rw [e]; intro a b; simp only [Bool.or_eq_true, decide_eq_true_eq]; omega) bs
  exact this.imp fun {a b} h => by rw [e] at h; simpa using h
end
section
variable {T : List Addr}
/-- one entry pushed -/
theorem push_at {H6 : Hp} {l ca p1 p2 p3 : Addr} {ts ps : List Addr} {st : Stk} {ch : Pth} {k : Nat} {b z : Int} (hl : H6 l = some (.lst (ts.map V.ref))) (hs : Paired (EntAt H6) ts st) (hca : H6 ca = some (.tup (ps.map V.ref))) (hps : Paired (PairAtV H6) ps ch)
    (n1 : H6 p1 = none) (n2 : upd H6 p1 (.tup [.int (k : Nat), .int b]) p2 = none) (n3 : upd (upd H6 p1 (.tup [.int (k : Nat), .int b])) p2 (.tup (ps.map V.ref ++ [.ref p1])) p3 = none) :
    Ext T H6 (upd (upd (upd H6 p1 (.tup [.int (k : Nat), .int b])) p2 (.tup (ps.map V.ref ++ [.ref p1]))) p3 (.tup [.int z, .ref p2])) ∧
    TK H6 (upd (upd (upd (upd H6 p1 (.tup [.int (k : Nat), .int b])) p2 (.tup (ps.map V.ref ++ [.ref p1]))) p3 (.tup [.int z, .ref p2])) l (.lst (ts.map V.ref ++ [.ref p3]))) ∧
    StkAt (upd (upd (upd (upd H6 p1 (.tup [.int (k : Nat), .int b])) p2 (.tup (ps.map V.ref ++ [.ref p1]))) p3 (.tup [.int z, .ref p2])) l (.lst (ts.map V.ref ++ [.ref p3]))) l (st ++ [(z, ch ++ [(k, b)])]) := by
  have x1 : Ext T H6 (upd H6 p1 (.tup [.int (k : Nat), .int b])) := Ext.new n1
  have x2 : Ext T _ (upd (upd H6 p1 (.tup [.int (k : Nat), .int b])) p2 (.tup (ps.map V.ref ++ [.ref p1]))) := Ext.new n2
  have x3 : Ext T _ (upd (upd (upd H6 p1 (.tup [.int (k : Nat), .int b])) p2 (.tup (ps.map V.ref ++ [.ref p1]))) p3 (.tup [.int z, .ref p2])) := Ext.new n3
  have x : Ext T H6 _ := (x1.trans x2).trans x3
  have hl8 := x.lst hl
  have k9 : TK (upd (upd (upd H6 p1 (.tup [.int (k : Nat), .int b])) p2 (.tup (ps.map V.ref ++ [.ref p1]))) p3 (.tup [.int z, .ref p2])) (upd (upd (upd (upd H6 p1 (.tup [.int (k : Nat), .int b])) p2 (.tup (ps.map V.ref ++ [.ref p1]))) p3 (.tup [.int z, .ref p2])) l (.lst (ts.map V.ref ++ [.ref p3]))) := TK.put hl8
  have k6 : TK H6 _ := fun a xs q => k9 a xs (x.tk a xs q)
  refine ⟨x, k6, ts ++ [p3], by rw [upd_same, List.map_append]; rfl, paired_snoc (paired_to (fun _ _ q => q.to k6) hs) ⟨p2, k9 _ _ upd_same, ps ++ [p1], ?_, paired_snoc (paired_to (fun _ _ q => k6 _ _ q) hps) ?_⟩⟩
  · rw [List.map_append]
    exact k9 _ _ (x3.tup upd_same)
  · exact k9 _ _ (x3.tup (x2.tup upd_same))
theorem wt_small : ∀ n, n ≤ 7 → wt n ≤ 13700
  | 0, _ => by decide
  | 1, _ => by decide
  | 2, _ => by decide
  | 3, _ => by decide
  | 4, _ => by decide
  | 5, _ => by decide
  | 6, _ => by decide
  | 7, _ => by decide
  | n + 8, h => by omega
theorem len_meas (n : Nat) : ∀ st : Stk, st.length ≤ meas n st
  | [] => Nat.zero_le _
  | e :: st => by
    have h1 := len_meas n st
    have h2 := wt_pos (n - e.2.length)
    show st.length + 1 ≤ wt (n - e.2.length) + (st.map fun e => wt (n - e.2.length)).sum
    have h3 : meas n st = (st.map fun e => wt (n - e.2.length)).sum := rfl
    omega
theorem kids_len (js : List Job) (mw : Bool) (now : Int) (c : Pth) (ks : List Nat) : (kids js mw now c ks).length ≤ ks.length := by
  unfold kids
  rw [List.length_map]
  exact List.length_filter_le _ _
end
section
variable {P : Program} {w : World} {K : PySem.W.Frag} {mg : Str → Option Value} {base : Heap} {T : List Addr}
def spSearch (T : List Addr) : Sp := fun vs H Q _ => ∃ (a : Addr) (js : List Job) (mw : Bool), vs = [.ref a, .bl mw] ∧ JobsAt H a js ∧ JobsOk js ∧ Tb T H ∧
  (∀ H', Ext T H H' → (¬ ∃ c, Full js mw c) → Q .non H') ∧
  (∀ H' p c zs, Ext T H H' → Full js mw c → RowOf js c zs → H' p = some (.tup (zs.map V.int)) → Q (.ref p) H')
theorem JobsOk.len {js : List Job} (h : JobsOk js) : ∀ k, k < js.length → 1 ≤ lng js k := fun k hk => by
  have e : jobAt js k = js[k] := by
    unfold jobAt
    rw [List.getD_eq_getElem?_getD, List.getElem?_eq_getElem hk]
    rfl
  unfold lng
  rw [e]
  exact (h.2.2 _ (List.getElem_mem hk)).2.2.1
theorem ok_search {f c Pt : Addr} {fd : FuncData} {k : Nat} (F : FunT K "search" "search" sSearch f c fd) (g : Gn mg) (TB : GxR.TabB base mg c Pt) (hT : Pt ∈ T) : FnOk P w K mg base CX0 (k + 2) f fd ["jobs", "may_wait"] (spSearch T) := by
  refine F.ok scSearch (fun vs H Q E h => ?_) (fun A outer s H vs Q E hr h => ?_)
  · obtain ⟨a, js, mw, rfl, _⟩ := h; rfl
  · obtain ⟨a, js, mw, rfl, hJ, hok, tb, qn, qs⟩ := h
    obtain ⟨as, hA, hp⟩ := id hJ
    have hlen := hok.len
    have hl : as.length = js.length := hp.length
    refine ⟨_,
(pss_cons (ps_set (i := 2) scSearch.nd rfl (Or.inl rfl) (pe_lst (pa_cons (pe_tup (pa_cons pe_int (pa_cons (pe_tup pa_nil) pa_nil))) pa_nil)))
      (pss_cons (ps_while PassesOwn.never (pt_truth (pv 2) (by intro _; rfl))
      (pss_cons (ps_asg (pe_bm0 PySem.F.plainAttrs_list PySem.F.slot_list_pop PySem.F.type_list_pop mt_pop (pv 2)) (pg_tup rfl (pgs_cons (pg_name (i := 3) scSearch.nd rfl (Or.inr rfl)) (pgs_cons (pg_name (i := 4) scSearch.nd rfl (Or.inl rfl)) pgs_nil))))
      (pss_cons (ps_if (pt_cmpR op_eq (pe_callB call_len_seq (by rfl) g.len (by decide +kernel) (pa_cons (pv 4) pa_nil)) (pe_callB call_len_seq (by rfl) g.len (by decide +kernel) (pa_cons (pv 0) pa_nil)) (nomark _)) (pss_one (ps_ret (pe_callTy call_tuple_of (by rfl) g.tuple (by decide +kernel) (pa_cons (pe_lc (own := [("job", 5), ("start", 6)]) rfl scSearch.nd (pi_list (pe_callB (cr_sortedDat hr) (by rfl) g.sorted (by decide +kernel) (pa_cons (pv 4) pa_nil))) (blkOk_by (N := ["jobs", "may_wait", "stack", "now", "chosen", "job", "start", "begun", "k", "left", "least"]) (sc := defScope sSearch) (own := [("job", 5), ("start", 6)]) (by decide +kernel)) (fun _ _ _ _ _ => (show PG _ _ (gTup K 2 (gCons (gName 5) (gCons (gName 6) gNil))) from pg_tup rfl (pgs_cons (pg_name (i := 5) scSearch.nd rfl (Or.inl rfl)) (pgs_cons (pg_name (i := 6) scSearch.nd rfl (Or.inl rfl)) pgs_nil)))) (fun _ _ _ _ _ => pts_nil) (fun _ _ _ _ _ => (pv 6))) pa_nil)))) pss_nil)
      (pss_cons (ps_set (i := 7) scSearch.nd rfl (Or.inr rfl) (pe_lc (own := [("job", 5), ("start", 6)]) rfl scSearch.nd (pi_tup (pv 4)) (blkOk_by (N := ["jobs", "may_wait", "stack", "now", "chosen", "job", "start", "begun", "k", "left", "least"]) (sc := defScope sSearch) (own := [("job", 5), ("start", 6)]) (by decide +kernel)) (fun _ _ _ _ _ => (show PG _ _ (gTup K 2 (gCons (gName 5) (gCons (gName 6) gNil))) from pg_tup rfl (pgs_cons (pg_name (i := 5) scSearch.nd rfl (Or.inl rfl)) (pgs_cons (pg_name (i := 6) scSearch.nd rfl (Or.inl rfl)) pgs_nil)))) (fun _ _ _ _ _ => pts_nil) (fun _ _ _ _ _ => (pv 5))))
      (pss_cons (ps_setLc (i := 9) (own := [("k", 8)]) rfl scSearch.nd rfl rfl (sw_true rfl rfl rfl (by decide +kernel)) (pi_range1 (by rfl) g.range (pa_cons (pe_callB call_len_seq (by rfl) g.len (by decide +kernel) (pa_cons (pv 0) pa_nil)) pa_nil)) (blkOk_by (N := ["jobs", "may_wait", "stack", "now", "chosen", "job", "start", "begun", "k", "left", "least"]) (sc := defScope sSearch) (own := [("k", 8)]) (by decide +kernel)) (fun _ _ _ _ _ => (pg_name (i := 8) scSearch.nd rfl (Or.inl rfl))) (fun _ _ _ _ _ => pts_one (pt_cmpR (r := rIn K true) op_notIn_seq (pv 8) (pv 7) (by rfl))) (fun _ _ _ _ _ => (pv 8)))
      (pss_cons (ps_set (i := 10) scSearch.nd rfl (Or.inl rfl) (pe_callB (call_max2 rfl) (by rfl) g.max (by decide +kernel) (pa_cons (pv 3) (pa_cons (pe_minG (C := CMin) hr (by rfl) g.min TB rfl ⟨rfl, rfl, by decide +kernel, rfl, rfl, free_by (sc := defScope sSearch) (n := s.heap.objs.size + 1) rfl (by decide +kernel)⟩ (psrc_list (pv 9)) (elt_min rfl rfl (free_by (sc := defScope sSearch) (n := s.heap.objs.size + 1) rfl (by decide +kernel)) rfl rfl) (fun _ => rfl)) pa_nil))))
      (pss_one (ps_if (pt_val (pe_allG (C := CFit) hr (by rfl) g.all TB rfl ⟨rfl, rfl, by decide +kernel, rfl, rfl, free_by (sc := defScope sSearch) (n := s.heap.objs.size + 1) rfl (by decide +kernel)⟩ (psrc_list (pv 9)) (elt_fit g rfl rfl rfl rfl (free_by (sc := defScope sSearch) (n := s.heap.objs.size + 1) rfl (by decide +kernel)) rfl rfl rfl rfl) (fun _ => rfl))) (pss_one (ps_for PassesOwn.never rfl (pi_list (pv 9)) (pg_name (i := 8) scSearch.nd rfl (Or.inl rfl))
      (pss_cons (ps_set (i := 6) scSearch.nd rfl (Or.inl rfl) (pe_callB (call_max2 rfl) (by rfl) g.max (by decide +kernel) (pa_cons (pv 3) (pa_cons (pe_ix ix_tup (pe_ix ix_tup (pv 0) (pv 8) (fun _ _ => rfl)) pe_int (fun _ _ => rfl)) pa_nil))))
      (pss_one (ps_if (PW.pt (pw_or (pt_val (pv 1)) (pw_or1 (pt_cmpR op_eq (pv 6) (pv 10) (nomark _))))) (pss_one (ps_expr (pe_bm PySem.F.plainAttrs_list PySem.F.slot_list_append PySem.F.type_list_append mt_append (pv 2) (pa_cons (pe_tup (pa_cons (pe_op op_add (pv 6) (pe_ix ix_tup (pe_ix ix_tup (pv 0) (pv 8) (fun _ _ => rfl)) pe_int (fun _ _ => rfl))) (pa_cons (pe_tup (StX.pa_star (pv 4) (pa_cons (pe_tup (pa_cons (pv 8) (pa_cons (pv 6) pa_nil))) pa_nil))) pa_nil))) pa_nil)))) pss_nil))))) pss_nil))))))))
      (pss_one (ps_ret pe_non))))
      , ?_⟩
    -- stack = [(0, ())]
    refine ⟨Nat.zero_le _, fun e0 n0 => ⟨by show 2 ≤ sizeLine; decide, fun t0 nt => ⟨by show 1 ≤ sizeLine; decide, fun l nl => ?_⟩⟩⟩
    have n0' := n0
    obtain ⟨nt1, nte⟩ := none_upd nt
    obtain ⟨nl1, nlt⟩ := none_upd nl
    obtain ⟨nl2, nle⟩ := none_upd nl1
    have x0 : Ext T H (upd (upd (upd H e0 (.tup [])) t0 (.tup [.int 0, .ref e0])) l (.lst [.ref t0])) := (((Ext.new n0).put nt1).put nl2)
    refine ⟨fun m σ H' => ∃ (st : Stk) (y3 y4 y5 y6 y7 y8 y9 y10 : Option V), σ = [some (.ref a), some (.bl mw), some (.ref l), y3, y4, y5, y6, y7, y8, y9, y10] ∧ m = meas js.length st ∧ meas js.length st ≤ wt js.length ∧ Ext T H H' ∧ StkAt H' l st ∧ Good js mw st,
      ⟨_, [(0, [])], none, none, none, none, none, none, none, none, rfl, rfl, ?_, x0, ⟨[t0], upd_same, .cons ⟨e0, ?_, [], ?_, .nil⟩ .nil⟩, Good.start js mw⟩, fun m σ H' hW => ?_⟩
    · simp [meas]
    · rw [upd_ne (Ne.symm nlt), upd_same]
    · rw [upd_ne (Ne.symm nle), upd_ne (Ne.symm nte), upd_same]
      rfl
    obtain ⟨st, y3, y4, y5, y6, y7, y8, y9, y10, rfl, rfl, hwt, eX, ⟨ts, hL, hPs⟩, hG⟩ := hW
    rcases List.eq_nil_or_concat st with rfl | ⟨st', ⟨now, ch⟩, est⟩
    · cases hPs
      exact ⟨_, rfl, false, .inl ⟨_, SqL.of hL, rfl⟩, iteF (qn H' eX hG.stop)⟩
    · have est' : st = st' ++ [(now, ch)] := by simpa using est
      subst est'
      obtain ⟨ts', t, rfl, hP', ca, ht, ps, hca, hps⟩ := paired_last hPs
      have hem : (!((ts' ++ [t]).map V.ref).isEmpty) = true := by simp
      refine ⟨_, rfl, true, .inl ⟨_, SqL.of hL, hem.symm⟩, iteT ⟨fun σ' H'' => ∃ (st2 : Stk) (y3 y4 y5 y6 y7 y8 y9 y10 : Option V), σ' = [some (.ref a), some (.bl mw), some (.ref l), y3, y4, y5, y6, y7, y8, y9, y10] ∧ meas js.length st2 < meas js.length (st' ++ [(now, ch)]) ∧ Ext T H H'' ∧ StkAt H'' l st2 ∧ Good js mw st2,
        fun σ' H'' hN => ?_, ?_⟩⟩
      · obtain ⟨st2, z3, z4, z5, z6, z7, z8, z9, z10, e1, e2, e3, e4, e5⟩ := hN
        exact ⟨_, e2, st2, z3, z4, z5, z6, z7, z8, z9, z10, e1, rfl, Nat.le_trans (Nat.le_of_lt e2) hwt, e3, e4, e5⟩
      -- now, chosen = stack.pop()
      have nLt : t ≠ l := ne_of ht hL (by intro z; cases z)
      have hdl : ((ts' ++ [t]).map V.ref).dropLast = ts'.map V.ref := by simp
      refine ⟨_, rfl, .inl ⟨rfl, _, SqL.of hL⟩, l, _, .ref t, rfl, rfl, hL, by simp, ?_⟩
      rw [hdl]
      have k1 : TK H' (upd H' l (.lst (ts'.map V.ref))) := TK.put hL
      have eX1 : Ext T H (upd H' l (.lst (ts'.map V.ref))) := eX.put nl2
      generalize hH1 : upd H' l (.lst (ts'.map V.ref)) = H1 at k1 eX1
      have hL1 : H1 l = some (.lst (ts'.map V.ref)) := by rw [← hH1, upd_same]
      have hP1 : Paired (EntAt H1) ts' st' := paired_to (fun _ _ q => q.to k1) hP'
      have hca1 := k1 _ _ hca
      have hps1 : Paired (PairAtV H1) ps ch := paired_to (fun _ _ q => k1 _ _ q) hps
      refine ⟨t, _, rfl, SqT.of (k1 _ _ ht), rfl, _, _, rfl, _, _, rfl, rfl, ?_⟩
      -- if len(chosen) == len(jobs)
      have hcl : ps.length = ch.length := hps.length
      refine ⟨_, rfl, ca, _, rfl, .inr (SqT.of hca1), _, rfl, a, _, rfl, .inr (SqT.of (eX1.tup hA)), rfl, _, rfl, ite2 (fun e => ?_) (fun e => ?_)⟩
      · -- return tuple([start for job, start in sorted(chosen)])
        refine ⟨_, rfl, _, ca, ps.zip ch, fun b => .ref b.1, fun b => .tuple [.int (b.2.1 : Nat), .int b.2.2], rfl, .inr (by rw [(zip_vals hcl).1]; exact SqT.of hca1), fun b hb => dp_ii (zip_at hps1 b hb), al_ii, so_ii, fun _ _ => de_ii, fun p np => ?_⟩
        obtain ⟨ss, ess, pm, so⟩ := ms_ii (ps.zip ch) (fun b => (b.2.1 : Nat)) (fun b => b.2.2)
        rw [ess]
        refine ⟨p, rfl, ⟨_, SqL.of upd_same⟩, fun D nD => ?_⟩
        obtain ⟨nD1, nDp⟩ := none_upd nD
        have eX2 := eX1.trans (Ext.new (o := .lst (ss.map fun b => V.ref b.1)) np)
        refine lc_it (walk_list (K := K) (xs := ss.map fun b => V.ref b.1)) (fun i H2 => Ext T H H2 ∧ H2 p = some (.lst (ss.map fun b => V.ref b.1)) ∧ (∀ b ∈ ss, H2 b.1 = some (.tup [.int (b.2.1 : Nat), .int b.2.2])) ∧ H2 D = some (.lst ((ss.take i).map fun b => V.int b.2.2))) ⟨eX2.trans (Ext.new nD), ?_, fun b hb => ?_, upd_same⟩ (fun i H2 _ h => SqL.of h.2.1) (fun i x H2 H3 hi h hy => ?_) (fun H2 h => ?_)
        · rw [upd_ne (Ne.symm nDp), upd_same]
        · have hb1 := zip_at hps1 b (pm.mem_iff.mp hb)
          rw [upd_ne (ne_of_none hb1 nD1), upd_ne (ne_of_none hb1 np)]
          exact hb1
        · obtain ⟨rfl, hx⟩ := hy
          obtain ⟨e2, hp2, hb2, hD2⟩ := h
          rw [List.getElem?_map] at hx
          obtain ⟨b, hb, rfl⟩ := Option.map_eq_some_iff.mp hx
          have hlt : ((ss.take i).map fun b => V.int b.2.2).length < sizeLine := by
            rw [List.length_map, List.length_take]
            have h1 := pm.length_eq
            have h2 := List.length_zip (l₁ := ps) (l₂ := ch)
            have h3 : ch.length ≤ js.length := by
              obtain ⟨w9, p9, _⟩ := hG.sound (now, ch) (by simp)
              exact p9.len
            exact small7 (by have := hok.2.1; omega)
          refine ⟨b.1, _, rfl, SqT.of (hb2 b (List.mem_of_getElem? hb)), rfl, _, _, rfl, _, _, rfl, rfl, rfl, ⟨_, rfl, _, hD2, hlt, ?_, ?_, fun b' hb' => ?_, ?_⟩⟩
          · exact e2.put (eX1.old _ nD1)
          · rw [upd_ne (Ne.symm nDp)]; exact hp2
          · rw [upd_ne (ne_of (hb2 b' hb') hD2 (by intro z; cases z))]; exact hb2 b' hb'
          · rw [upd_same, take_snoc hb, List.map_append]; rfl
        · obtain ⟨e2, hp2, hb2, hD2⟩ := h
          rw [List.length_map, List.take_length] at hD2
          refine ⟨D, _, rfl, .inl ⟨SqL.of hD2, fun q nq => ?_⟩⟩
          have hlen2 : ch.length = js.length := by
            have := of_decide_eq_true e
            injection this with this
            simp only [List.length_map] at this
            omega
          have hF := hG.hit hlen2
          refine qs _ q ch (ss.map fun b => b.2.2) (e2.trans (Ext.new nq)) hF ?_ ?_
          · obtain ⟨n9, w9, p9, _⟩ := hF
            refine rowOf_sorted (bs := ps.zip ch) (zip_vals hcl).2 pm (so.imp fun {a b} h => ?_) (full_perm p9 hlen2)
            have h' : (a.2.1 : Int) < b.2.1 ∨ ((a.2.1 : Int) = b.2.1 ∧ a.2.2 ≤ b.2.2) := h
            omega
          · rw [upd_same, List.map_map]; rfl
      · -- begun = [job for job, start in chosen]
        have hne2 : ch.length ≠ js.length := fun z => e (by
          rw [List.length_map, List.length_map, hl, hcl]
          exact decide_eq_true (by rw [z]))
        have hcl7 : ch.length ≤ 7 := by
          obtain ⟨w9, p9, _⟩ := hG.sound (now, ch) (by simp)
          exact Nat.le_trans p9.len hok.2.1
        refine ⟨_, rfl, ca, rfl, ⟨_, SqT.of hca1⟩, fun B nB => ?_⟩
        refine lc_it (walk_tup (K := K) (xs := ps.map V.ref)) (fun i H2 => Ext T H1 H2 ∧ H2 B = some (.lst (KInts ((dn ch).take i)))) ⟨Ext.new nB, upd_same⟩ (fun i H2 _ h => SqT.of (h.1.tup hca1)) (fun i x H2 H3 hi h hy => ?_) (fun H2 h => ?_)
        · obtain ⟨rfl, hx⟩ := hy
          obtain ⟨e2, hB2⟩ := h
          rw [List.getElem?_map] at hx
          obtain ⟨q, hq, rfl⟩ := Option.map_eq_some_iff.mp hx
          obtain ⟨y, hy, hqy⟩ := paired_get' hps1 hq
          refine ⟨q, _, rfl, SqT.of (e2.tup hqy), rfl, _, _, rfl, _, _, rfl, rfl, rfl, ⟨_, rfl, _, hB2, small7 ?_, e2.put nB, ?_⟩⟩
          · unfold KInts
            rw [List.length_map, List.length_take, List.length_map]
            omega
          · rw [upd_same, take_snoc (x := y.1) (by rw [List.getElem?_map, hy]; rfl)]
            simp [KInts]
        obtain ⟨e2, hB2⟩ := h
        rw [List.length_map, hcl, show ch.length = (dn ch).length from (List.length_map ..).symm, List.take_length] at hB2
        -- left = [k for k in range(len(jobs)) if k not in begun]
        have hn7 := hok.2.1
        have hll : ([V.int ((as.map V.ref).length : Nat)] : List V) = [.int (js.length : Nat)] := by rw [List.length_map, hl]
        have hA2 : ∀ {H3 : Hp}, Ext T H2 H3 → H3 a = some (.tup (as.map V.ref)) := fun e3 => e3.tup (e2.tup (eX1.tup hA))
        refine ⟨_, rfl, a, _, rfl, .inr (SqT.of (hA2 (Ext.refl T H2))), (js.length : Nat), hll, by omega, by omega, fun L nL => ?_⟩
        refine lc_range (n := js.length) (fun i H3 => Ext T H2 H3 ∧ H3 L = some (.lst (KInts ((List.range i).filter fun k => decide (k ∉ dn ch))))) ⟨Ext.new nL, upd_same⟩ (fun i H3 hi h => ?_) (fun H3 h => ?_)
        · obtain ⟨e3, hL3⟩ := h
          have ez : (0 : Int) + (i : Nat) = (i : Nat) := Int.zero_add _
          rw [ez]
          refine ⟨rfl, _, rfl, _, rfl, B, _, rfl, .inl (SqL.of (e3.lst hB2)), rfl, kints_flat _, _, rfl, ?_⟩
          have en : (!inV (.int (i : Nat)) (KInts (dn ch))) = decide (i ∉ dn ch) := by
            rw [in_kints]; by_cases z : i ∈ dn ch <;> simp [z]
          have es : (List.range (i + 1)).filter (fun k => decide (k ∉ dn ch)) = (List.range i).filter (fun k => decide (k ∉ dn ch)) ++ (if decide (i ∉ dn ch) = true then [i] else []) := by
            rw [List.range_succ, List.filter_append]
            by_cases z : decide (i ∉ dn ch) = true
            · rw [if_pos z]; simp [List.filter, z]
            · rw [if_neg z]; simp [List.filter, z]
          refine ite2 (fun z => ?_) (fun z => ?_)
          · have z' : decide (i ∉ dn ch) = true := by rw [← en]; exact z
            refine ⟨_, rfl, _, hL3, small7 ?_, e3.put nL, ?_⟩
            · unfold KInts
              rw [List.length_map]
              have := List.length_filter_le (fun k => decide (k ∉ dn ch)) (List.range i)
              rw [List.length_range] at this
              omega
            · rw [upd_same, es, if_pos z']
              simp [KInts]
          · have z' : ¬ decide (i ∉ dn ch) = true := by rw [← en]; exact z
            refine ⟨e3, ?_⟩
            rw [es, if_neg z', List.append_nil]
            exact hL3
        obtain ⟨e3, hL3⟩ := h
        have hks : (List.range js.length).filter (fun k => decide (k ∉ dn ch)) = leftS js.length (dn ch) := rfl
        rw [hks] at hL3
        obtain ⟨wp, pth, hwp⟩ := hG.sound (now, ch) (by simp)
        have pth : Path js ch now wp := pth
        have hlt : ∀ k ∈ leftS js.length (dn ch), k < js.length := fun k hk => (mem_leftS.mp hk).1
        have hpos : 0 < (leftS js.length (dn ch)).length := by
          refine Nat.pos_of_ne_zero fun z => hne2 ?_
          have q := List.length_eq_zero_iff.mp z
          have qq : ∀ k, k < js.length → k ∈ dn ch := fun k hk => by
            by_cases m : k ∈ dn ch
            · exact m
            · have := mem_leftS.mpr ⟨hk, m⟩
              rw [q] at this
              cases this
          have h1 := nodup_le (l := List.range js.length) (n := js.length) List.nodup_range (fun k hk => List.mem_range.mp hk)
          obtain ⟨r, pr⟩ := nodup_sub (l := List.range js.length) (m := dn ch) List.nodup_range fun k hk => qq k (List.mem_range.mp hk)
          have h2 := pr.length_eq
          have h3 : ch.length ≤ js.length := pth.len
          simp only [List.length_append, List.length_range, List.length_map] at h2
          omega
        have e13 : Ext T H1 H3 := e2.trans e3
        have e03 : Ext T H H3 := eX1.trans e13
        have hT3 : GxR.TabG H3 Pt := e03.tabs tb Pt hT
        generalize hlf : leftS js.length (dn ch) = lf at hL3 hlt hpos
        -- least = max(now, min(jobs[k][0] for k in left))
        refine ⟨_, rfl, _, rfl, L, _, rfl, SqL.of hL3, hT3, hT3, ?_, _, ⟨a, js, lf, rfl, hJ.to e03, hlt, ?_, rfl, rfl⟩, fun H4 j hT4 hj hmin => ?_⟩
        · simpa [KInts] using hpos
        · simp [KInts]
        have e34 : Ext T H3 H4 := Ext.tab hT4 hT3
        have e04 : Ext T H H4 := e03.trans e34
        have hj' : j < lf.length := by simpa [KInts] using hj
        have hm : arr js (lf.getD j 0) = mn (lf.map (arr js)) := min_rangeN hj' fun i hi => hmin i (by simpa [KInts] using hi)
        refine ⟨_, _, rfl, ?_⟩
        have hle : (if arr js (lf.getD j 0) > now then arr js (lf.getD j 0) else now) = lst js now (dn ch) := by
          show mx now _ = mx now _
          rw [hm, hlf]
        rw [hle]
        -- if all(..)
        have hT4' : GxR.TabG H4 Pt := e04.tabs tb Pt hT
        refine ⟨_, rfl, L, _, rfl, SqL.of (e34.lst hL3), hT4', hT4', _, ⟨a, js, lf, now, rfl, rfl, hJ.to e04, hlt, ?_, rfl, rfl⟩, fun H5 hT5 => ⟨_, rfl, ?_⟩⟩
        · simp [KInts]
        have e05 : Ext T H H5 := e04.trans (Ext.tab hT5 hT4')
        have e35 : Ext T H3 H5 := e34.trans (Ext.tab hT5 hT4')
        have e15 : Ext T H1 H5 := e13.trans e35
        have ea : (List.range (KInts lf).length).all (fun i => fits js now (lf.getD i 0)) = lf.all (fits js now) := by
          rw [show (KInts lf).length = lf.length by simp [KInts]]
          exact all_rangeN lf _
        rw [ea]
        have hlL : l ≠ L := ne_of_none (e2.lst hL1) nL
        have hlf7 : lf.length ≤ 7 := by
          rw [← hlf]
          have := leftS_len pth
          omega
        refine ite2 (fun ef => ?_) (fun ef => ?_)
        · have hyes : ∀ k ∈ lf, fits js now k = true := List.all_eq_true.mp ef
          refine ⟨_, rfl, L, rfl, ⟨_, SqL.of (e35.lst hL3)⟩, for_list (xs := KInts lf) (fun i σ H6 => ∃ z6 z8, σ = [some (.ref a), some (.bl mw), some (.ref l), some (.int now), some (.ref ca), y5, z6, some (.ref B), z8, some (.ref L), some (.int (lst js now (dn ch)))] ∧ Ext T H H6 ∧ TK H1 H6 ∧ H6 L = some (.lst (KInts lf)) ∧ StkAt H6 l (st' ++ kids js mw now ch (lf.take i))) ⟨_, _, rfl, e05, e15.tk, e35.lst hL3, ?_⟩ (fun i σ H6 _ h => ?_) (fun i x σ H6 hx h => ?_) (fun σ H6 h => ?_)⟩
          · rw [List.take_zero, kids_nil, List.append_nil]
            exact ⟨ts', e15.lst hL1, paired_to (fun _ _ q => q.to e15.tk) hP1⟩
          · obtain ⟨_, _, _, _, _, h, _⟩ := h
            exact SqL.of h
          · obtain ⟨z6, z8, rfl, e06, k16, hL6, ts6, hl6, hs6⟩ := h
            unfold KInts at hx
            rw [List.getElem?_map] at hx
            obtain ⟨k, hk, rfl⟩ := Option.map_eq_some_iff.mp hx
            have hkl := hlt k (List.mem_of_getElem? hk)
            obtain ⟨xs, p, hA6, hat, hpj⟩ := (hJ.to e06).get hkl
            refine ⟨_, rfl, _, rfl, _, rfl, a, _, _, _, rfl, rfl, SqT.of hA6, hat, p, _, _, _, rfl, rfl, SqT.of hpj, atI_nat (j := 0) rfl, _, _, rfl, ?_⟩
            have hlenr : ts6.length ≤ 13707 := by
              have h1 := hs6.length
              have h2 := kids_len js mw now ch (lf.take i)
              have h3 : (lf.take i).length ≤ 7 := by rw [List.length_take]; omega
              have h4 := len_meas js.length st'
              have h5 := wt_small js.length hok.2.1
              have h6 := meas_append js.length st' [(now, ch)]
              simp only [List.length_append] at h1
              omega
            have hps6 : ps.length ≤ 7 := by rw [hcl]; exact hcl7
            have hta : lf.take (i + 1) = lf.take i ++ [k] := take_snoc hk
            have hpush : ∀ (b : Bool), (mw || decide (stt js now k = lst js now (dn ch))) = b → kids js mw now ch (lf.take (i + 1)) = kids js mw now ch (lf.take i) ++ (if b = true then [(stt js now k + lng js k, ch ++ [(k, stt js now k)])] else []) := fun b hb => by rw [hta, kids_snoc, hb]
            have hl0 : H l = none := nl2
            refine ⟨_, rfl, mw, rfl, ite2 (fun hm => ?_) (fun hm => ?_)⟩
            · refine iteT ⟨_, rfl, .inl ⟨rfl, _, SqL.of hl6⟩, _, rfl, _, rfl, _, rfl, a, _, _, _, rfl, rfl, SqT.of hA6, hat, p, _, _, _, rfl, rfl, SqT.of hpj, atI_nat (j := 1) rfl, _, _, rfl, rfl, _, rfl, ca, _, rfl, .inl (SqT.of (k16 _ _ hca1)), _, rfl, _, rfl, small8 (by simp), fun p1 n1 => ⟨?_, fun p2 n2 => ⟨small8 (by simp), fun p3 n3 => ?_⟩⟩⟩
              · exact small8 (by simp; omega)
              obtain ⟨x8, k9, sk⟩ := push_at (T := T) (z := stt js now k + lng js k) hl6 hs6 (k16 _ _ hca1) (paired_to (fun _ _ q => k16 _ _ q) hps1) n1 n2 n3
              refine ⟨l, _, _, rfl, rfl, x8.lst hl6, by rw [List.length_map, sizeLine_eq]; omega, _, _, rfl, (e06.trans x8).put hl0, fun b xs q => k9 _ _ (k16 _ _ q), ?_, ?_⟩
              · rw [upd_ne (Ne.symm hlL)]; exact x8.lst hL6
              · rw [hpush true (by rw [hm]; rfl), if_pos rfl, ← List.append_assoc]
                exact sk
            · refine ⟨_, rfl, _, rfl, rfl, _, rfl, ite2 (fun hq => ?_) (fun hq => ?_)⟩
              · have hm' : mw = false := by simpa using hm
                have hq' : stt js now k = lst js now (dn ch) := by
                  have := of_decide_eq_true hq
                  injection this
                refine ⟨_, rfl, .inl ⟨rfl, _, SqL.of hl6⟩, _, rfl, _, rfl, _, rfl, a, _, _, _, rfl, rfl, SqT.of hA6, hat, p, _, _, _, rfl, rfl, SqT.of hpj, atI_nat (j := 1) rfl, _, _, rfl, rfl, _, rfl, ca, _, rfl, .inl (SqT.of (k16 _ _ hca1)), _, rfl, _, rfl, small8 (by simp), fun p1 n1 => ⟨?_, fun p2 n2 => ⟨small8 (by simp), fun p3 n3 => ?_⟩⟩⟩
                · exact small8 (by simp; omega)
                obtain ⟨x8, k9, sk⟩ := push_at (T := T) (z := stt js now k + lng js k) hl6 hs6 (k16 _ _ hca1) (paired_to (fun _ _ q => k16 _ _ q) hps1) n1 n2 n3
                refine ⟨l, _, _, rfl, rfl, x8.lst hl6, by rw [List.length_map, sizeLine_eq]; omega, _, _, rfl, (e06.trans x8).put hl0, fun b xs q => k9 _ _ (k16 _ _ q), ?_, ?_⟩
                · rw [upd_ne (Ne.symm hlL)]; exact x8.lst hL6
                · rw [hpush true (by rw [decide_eq_true hq', Bool.or_true]), if_pos rfl, ← List.append_assoc]
                  exact sk
              · have hm' : mw = false := by simpa using hm
                have hq' : ¬ stt js now k = lst js now (dn ch) := fun z => hq (decide_eq_true (congrArg V.int z))
                refine ⟨_, _, rfl, e06, k16, hL6, ?_⟩
                rw [hpush false (by rw [hm', decide_eq_false hq']; rfl), if_neg (by simp), List.append_nil]
                exact ⟨ts6, hl6, hs6⟩
          · obtain ⟨z6, z8, rfl, e06, k16, hL6, hs6⟩ := h
            have hg1 := hG.push hlen hne2 (by rw [hlf]; exact hyes)
            have hm1 := meas_push (mw := mw) (st := st') pth hne2
            rw [hlf] at hg1 hm1
            rw [show (KInts lf).length = lf.length by simp [KInts], List.take_length] at hs6
            exact ⟨_, _, _, _, _, _, _, _, _, rfl, hm1, e06, hs6, hg1⟩
        · have hno : ¬ ∀ k ∈ leftS js.length (dn ch), fits js now k = true := by
            rw [hlf]
            exact fun z => ef (List.all_eq_true.mpr z)
          exact ⟨st', _, _, _, _, _, _, _, _, rfl, meas_drop, e05, ⟨ts', e15.lst hL1, paired_to (fun _ _ q => q.to e15.tk) hP1⟩, hG.drop hlen hno⟩
end
end K23
/-! whole_starts, needs_waiting, shows_whole_starts, _law_is_starts, _law_alike. -/
namespace K23
open PySem PySem.Spec PyProof.Rows L2

/-! ### the judge, plainly -/
def iv : V → Int
  | .int i => i
  | _ => 0
def zOf (r : Option (List V)) (k : Nat) : Int := iv ((r.getD []).getD k .non)
def win (js : List Job) (z : Nat → Int) (k : Nat) : Bool := !(decide (z k < arr js k) || decide (due js k < z k + lng js k))
def pairAt (js : List Job) (z : Nat → Int) (k : Nat) : Int × Int := (z k, z k + lng js k)
def prs (js : List Job) (z : Nat → Int) : List (Int × Int) := (List.range js.length).map (pairAt js z)
def ple (p q : Int × Int) : Prop := p.1 < q.1 ∨ (p.1 = q.1 ∧ p.2 ≤ q.2)
instance (p q : Int × Int) : Decidable (ple p q) := by unfold ple; infer_instance
def srtP (l : List (Int × Int)) : List (Int × Int) := l.mergeSort fun p q => decide (ple p q)
def apart (l : List (Int × Int)) : Bool := (List.range (l.length - 1)).all fun k => decide ((l.getD k (0, 0)).2 ≤ (l.getD (k + 1) (0, 0)).1)
def judge (js : List Job) (r : Option (List V)) : Bool := rowOk r js.length && ((List.range js.length).all (win js (zOf r)) && apart (srtP (prs js (zOf r))))
theorem ple_trans {a b c : Int × Int} (h1 : ple a b) (h2 : ple b c) : ple a c := by
  obtain ⟨a1, a2⟩ := a
  obtain ⟨b1, b2⟩ := b
  obtain ⟨c1, c2⟩ := c
  unfold ple at *
  simp only at *
  omega
theorem ple_total (a b : Int × Int) : ple a b ∨ ple b a := by
  obtain ⟨a1, a2⟩ := a
  obtain ⟨b1, b2⟩ := b
  unfold ple
  simp only
  omega
theorem srtP_spec (l : List (Int × Int)) : (srtP l).Perm l ∧ (srtP l).Pairwise ple := by
  refine ⟨List.mergeSort_perm _ _, ?_⟩
  have := List.pairwise_mergeSort (le := fun p q => decide (ple p q)) (fun a b c h1 h2 => decide_eq_true (ple_trans (of_decide_eq_true h1) (of_decide_eq_true h2))) (fun a b => by rw [Bool.or_eq_true, decide_eq_true_eq, decide_eq_true_eq]; exact ple_total a b) l
  exact this.imp fun {a b} h => of_decide_eq_true h
theorem srtP_uniq {l m : List (Int × Int)} (p : m.Perm l) (h : m.Pairwise ple) : m = srtP l := by
  obtain ⟨a, b⟩ := srtP_spec l
  refine (p.trans a.symm).eq_of_pairwise (fun x y _ _ h1 h2 => ?_) h b
  obtain ⟨x1, x2⟩ := x
  obtain ⟨y1, y2⟩ := y
  unfold ple at h1 h2
  simp only at h1 h2
  have e1 : x1 = y1 := by omega
  have e2 : x2 = y2 := by omega
  rw [e1, e2]
theorem rowOf_z {js : List Job} {c : Pth} {zs : List Int} (h : RowOf js c zs) {q : Nat × Int} (hq : q ∈ c) : zOf (some (zs.map V.int)) q.1 = q.2 := by
  have e := h.2 q hq
  unfold zOf
  rw [Option.getD_some, List.getD_eq_getElem?_getD, List.getElem?_map, e]
  rfl
/-- a found row stands the judge -/
theorem judge_found {js : List Job} {c : Pth} {zs : List Int} (hl : ∀ k, k < js.length → 1 ≤ lng js k) (hF : Full js true c) (h : RowOf js c zs) : judge js (some (zs.map V.int)) = true := by
  obtain ⟨now, w, p, hc, _⟩ := hF
  have hz : ∀ q ∈ c, zOf (some (zs.map V.int)) q.1 = q.2 := fun q hq => rowOf_z h hq
  have hpm := full_perm p hc
  generalize hzz : zOf (some (zs.map V.int)) = z at hz
  have h1 : rowOk (some (zs.map V.int)) js.length = true := by
    show (decide ((zs.map V.int).length = js.length) && (zs.map V.int).all isIntV) = true
    rw [List.length_map, decide_eq_true h.1, Bool.true_and, List.all_eq_true]
    intro x hx
    obtain ⟨i, _, rfl⟩ := List.mem_map.mp hx
    rfl
  have hin : ∀ k, k < js.length → ∃ q ∈ c, q.1 = k := fun k hk => by
    obtain ⟨q, hq, e⟩ := List.mem_map.mp (full_left p hc k hk)
    exact ⟨q, hq, e⟩
  have h2 : (List.range js.length).all (win js z) = true := by
    rw [List.all_eq_true]
    intro k hk
    obtain ⟨q, hq, rfl⟩ := hin k (List.mem_range.mp hk)
    obtain ⟨_, a, b, _⟩ := p.each hl q hq
    unfold win
    rw [hz q hq, decide_eq_false (by omega), decide_eq_false (by omega)]
    rfl
  have hpp : (c.map fun q => pairAt js z q.1).Perm (prs js z) := by
    have := hpm.map (pairAt js z)
    unfold dn at this
    rw [List.map_map] at this
    exact this
  have hD : (prs js z).Pairwise fun p q => p.2 ≤ q.1 ∨ q.2 ≤ p.1 := by
    refine (hpp.pairwise_iff (fun {a b} h => h.symm)).mp ?_
    rw [List.pairwise_map]
    refine List.Pairwise.imp_of_mem (fun {a b} ha hb hab => ?_) (p.order hl)
    unfold pairAt
    rw [hz a ha, hz b hb]
    exact .inl hab
  obtain ⟨s1, s2⟩ := srtP_spec (prs js z)
  have s3 := (s1.pairwise_iff (R := fun p q : Int × Int => p.2 ≤ q.1 ∨ q.2 ≤ p.1) (fun {a b} h => h.symm)).mpr hD
  have hpos : ∀ q ∈ srtP (prs js z), q.1 < q.2 := fun q hq => by
    have := s1.mem_iff.mp hq
    obtain ⟨k, hk, rfl⟩ := List.mem_map.mp this
    have := hl k (List.mem_range.mp hk)
    show z k < z k + lng js k
    omega
  have h3 : apart (srtP (prs js z)) = true := by
    unfold apart
    rw [List.all_eq_true]
    intro k hk
    have hk' := List.mem_range.mp hk
    have ha := List.pairwise_iff_getElem.mp s2 k (k + 1) (by omega) (by omega) (by omega)
    have hb := List.pairwise_iff_getElem.mp s3 k (k + 1) (by omega) (by omega) (by omega)
    have hc := hpos _ (List.getElem_mem (show k + 1 < (srtP (prs js z)).length by omega))
    rw [List.getD_eq_getElem?_getD, List.getElem?_eq_getElem (by omega), List.getD_eq_getElem?_getD, List.getElem?_eq_getElem (by omega)]
    refine decide_eq_true ?_
    show ((srtP (prs js z))[k]).2 ≤ ((srtP (prs js z))[k + 1]).1
    unfold ple at ha
    omega
  unfold judge
  rw [h1, hzz, h2, h3]
  rfl

/-! ### the functions that stand in the module -/
structure One (K : PySem.W.Frag) (mg : Str → Option Value) (x : Str) (st : Stmt) (ps : List Str) where
  a : Addr
  fd : FuncData
  F : Fun K x x st a fd
  b : Binds K fd ps []
  g : mg x = some (.ref a)
structure OneT (K : PySem.W.Frag) (mg : Str → Option Value) (base : Heap) (x : Str) (st : Stmt) (ps : List Str) where
  a : Addr
  c : Addr
  pt : Addr
  fd : FuncData
  F : FunT K x x st a c fd
  b : Binds K fd ps []
  g : mg x = some (.ref a)
  t : GxR.TabB base mg c pt
structure Fs (K : PySem.W.Frag) (mg : Str → Option Value) (base : Heap) where
  g : Gn mg
  isin : One K mg "is_in" sIsIn ["value", "least", "most"]
  long : One K mg "is_long" sIsLong ["job"]
  need : One K mg "need_long" sNeed ["jobs"]
  row : OneT K mg base "is_start_row" sRow ["value", "many"]
  search : OneT K mg base "search" sSearch ["jobs", "may_wait"]
  whole : One K mg "whole_starts" sWhole ["jobs"]
  shows : OneT K mg base "shows_whole_starts" sShows ["jobs", "value"]
  waits : One K mg "needs_waiting" sWaits ["jobs"]
  taken : One K mg "_law_taken" sTaken ["_law_row", "_law_many"]
  pick : One K mg "_law_pick" sPick ["_law_row", "_law_things"]
  alike : One K mg "_law_alike" sAlike ["_law_found", "_law_due"]
  jobs : One K mg "_law_jobs" sJobs ["_law_row"]
  all : One K mg "_law_all" sAll ["_law_jobs_here"]
  isst : One K mg "_law_is_starts" sIsSt ["_law_jobs_here", "_law_value"]

section
variable {P : Program} {w : World} {K : PySem.W.Frag} {mg : Str → Option Value} {base : Heap}
def Fs.T (S : Fs K mg base) : List Addr := [S.row.pt, S.search.pt, S.shows.pt]
theorem Fs.okNeed (S : Fs K mg base) {k : Nat} : FnOk P w K mg base CX0 (k + 3) S.need.a S.need.fd ["jobs"] (spNeed S.T) := ok_need S.need.F S.g S.long.F S.long.b S.long.g S.isin.F S.isin.b S.isin.g
theorem Fs.okSearch (S : Fs K mg base) {k : Nat} : FnOk P w K mg base CX0 (k + 2) S.search.a S.search.fd ["jobs", "may_wait"] (spSearch S.T) := ok_search S.search.F S.g S.search.t (List.mem_cons_of_mem _ List.mem_cons_self)
theorem Fs.okRow (S : Fs K mg base) {k : Nat} : FnOk P w K mg base CX0 (k + 2) S.row.a S.row.fd ["value", "many"] (spRow S.T) := ok_row S.row.F S.g S.row.t List.mem_cons_self

/-! ### whole_starts and needs_waiting -/
def spWhole (T : List Addr) : Sp := fun vs H Q _ => ∃ (a : Addr) (js : List Job), vs = [.ref a] ∧ JobsAt H a js ∧ JobsOk js ∧ Tb T H ∧
  (∀ H', Ext T H H' → (¬ ∃ c, Full js true c) → Q .non H') ∧
  (∀ H' p c zs, Ext T H H' → Full js true c → RowOf js c zs → H' p = some (.tup (zs.map V.int)) → Q (.ref p) H')
theorem Fs.okWhole (S : Fs K mg base) {k : Nat} : FnOk P w K mg base CX0 (k + 4) S.whole.a S.whole.fd ["jobs"] (spWhole S.T) := by
  have GN : FnOk P w K mg base CX0 (k + 3) S.need.a S.need.fd ["jobs"] (spNeed S.T) := S.okNeed
  have GS : FnOk P w K mg base CX0 (k + 3) S.search.a S.search.fd ["jobs", "may_wait"] (spSearch S.T) := S.okSearch
  have g := S.g
  refine S.whole.F.ok scWhole (fun vs H Q E h => ?_) (fun cdv A outer s H vs Q E hr h => ?_)
  · obtain ⟨a, js, rfl, _⟩ := h; rfl
  · obtain ⟨a, js, rfl, hJ, hok, tb, qn, qs⟩ := h
    refine ⟨_,
(pss_cons (ps_expr (pe_call GN hr (by rfl) S.need.g S.need.F.kp S.need.b .nil pass0 (pa_cons (pv 0) pa_nil)))
      (pss_one (ps_ret (pe_call GS hr (by rfl) S.search.g S.search.F.kp S.search.b .nil pass0 (pa_cons (pv 0) (pa_cons pe_bl pa_nil))))))
      , ?_⟩
    refine ⟨_, rfl, a, js, rfl, hJ, hok, fun H1 e1 => ?_⟩
    refine ⟨_, rfl, a, js, true, rfl, hJ.to e1, hok, e1.tabs tb, fun H2 e2 h => qn H2 (e1.trans e2) h, fun H2 p c zs e2 h1 h2 h3 => qs H2 p c zs (e1.trans e2) h1 h2 h3⟩
def spWaits (T : List Addr) : Sp := fun vs H Q _ => ∃ (a : Addr) (js : List Job), vs = [.ref a] ∧ JobsAt H a js ∧ JobsOk js ∧ Tb T H ∧
  ∀ H' b, Ext T H H' → (b = true ↔ (¬ ∃ c, Full js false c) ∧ ∃ c, Full js true c) → Q (.bl b) H'
theorem Fs.okWaits (S : Fs K mg base) {k : Nat} : FnOk P w K mg base CX0 (k + 4) S.waits.a S.waits.fd ["jobs"] (spWaits S.T) := by
  have GN : FnOk P w K mg base CX0 (k + 3) S.need.a S.need.fd ["jobs"] (spNeed S.T) := S.okNeed
  have GS : FnOk P w K mg base CX0 (k + 3) S.search.a S.search.fd ["jobs", "may_wait"] (spSearch S.T) := S.okSearch
  have g := S.g
  refine S.waits.F.ok scWaits (fun vs H Q E h => ?_) (fun cdv A outer s H vs Q E hr h => ?_)
  · obtain ⟨a, js, rfl, _⟩ := h; rfl
  · obtain ⟨a, js, rfl, hJ, hok, tb, q⟩ := h
    refine ⟨_,
(pss_cons (ps_expr (pe_call GN hr (by rfl) S.need.g S.need.F.kp S.need.b .nil pass0 (pa_cons (pv 0) pa_nil)))
      (pss_one (ps_ret ((pe_and (pe_cmp (pc_isN (pe_call GS hr (by rfl) S.search.g S.search.F.kp S.search.b .nil pass0 (pa_cons (pv 0) (pa_cons pe_bl pa_nil))))) (pe_one (pe_cmp (pc_notN (pe_call GS hr (by rfl) S.search.g S.search.F.kp S.search.b .nil pass0 (pa_cons (pv 0) (pa_cons pe_bl pa_nil)))))))))))
      , ?_⟩
    refine ⟨_, rfl, a, js, rfl, hJ, hok, fun H1 e1 => ?_⟩
    refine ⟨_, rfl, a, js, false, rfl, hJ.to e1, hok, e1.tabs tb, fun H2 e2 h => ?_, fun H2 p c zs e2 h1 h2 h3 => ?_⟩
    · refine ⟨true, rfl, iteT ⟨_, rfl, a, js, true, rfl, (hJ.to e1).to e2, hok, (e1.trans e2).tabs tb, fun H3 e3 h3 => ?_, fun H3 p c zs e3 h1 h2 h3 => ?_⟩⟩
      · refine q H3 _ ((e1.trans e2).trans e3) ?_
        simp [h3]
      · refine q H3 _ ((e1.trans e2).trans e3) ?_
        simp only [Bool.not_eq_true', true_iff, decide_eq_false_iff_not, reduceCtorEq, not_false_eq_true, iff_true]
        exact ⟨h, c, h1⟩
    · refine ⟨false, rfl, iteF ?_⟩
      refine q H2 _ (e1.trans e2) ?_
      simp only [Bool.false_eq_true, false_iff]
      exact fun z => z.1 ⟨c, h1⟩

/-! ### shows_whole_starts -/
def spShows (T : List Addr) : Sp := fun vs H Q _ => ∃ (a : Addr) (js : List Job) (v : V) (r : Option (List V)), vs = [.ref a, v] ∧ JobsAt H a js ∧ JobsOk js ∧ ArgV H v r ∧ Tb T H ∧ ∀ H', Ext T H H' → Q (.bl (judge js r)) H'
def CApt : L2.St → Hp → Nat → (Nat → Value → Prop) → (Nat → Bool) → Prop := fun σ H1 n Pi tr => ∃ (p : Addr) (ss : List (Addr × Int × Int)), σ[6]? = some (some (.ref p)) ∧ H1 p = some (.lst (ss.map fun b => V.ref b.1)) ∧ (∀ b ∈ ss, H1 b.1 = some (.tup [.int b.2.1, .int b.2.2])) ∧
  n = ss.length - 1 ∧ Pi = (fun i u => i < n ∧ ∃ t, u = .int (i : Int) t) ∧ tr = fun k => decide (((ss.map Prod.snd).getD k (0, 0)).2 ≤ ((ss.map Prod.snd).getD (k + 1) (0, 0)).1)
theorem elt_apt {X : Cx} {Pt : Addr} {scope : Scope} {p1 p2 p3 p4 p5 q1 q2 q3 q4 q5 q6 q7 r : Pos} {j1 j2 j3 : Nat} (hN : X.N[6]? = some (Str.ofString "some")) (hx : X.env.scope.names.lookup (Str.ofString "some") = some .cell)
    (hfree : ∀ y ∈ scope.names, y.2 = .free → ∃ c, X.env.cells.lookup y.1 = some c) (h1 : scope.names.lookup (Str.ofString "some") = some .free) (h2 : scope.names.lookup (Str.ofString "k") = some .local) :
    ∀ pins σ H1 s1 n Pi tr, Inv X pins σ H1 s1 → GxR.TabG H1 Pt → CApt σ H1 n Pi tr → EltOk X Pt s1 scope (Str.ofString "k")
      (.Compare (.Subscript (.Subscript (.Name (Str.ofString "some") p1) (.Name (Str.ofString "k") p2) p3) (.Constant (.int 1) j1 p4) p5) [.LtE] [.Subscript (.Subscript (.Name (Str.ofString "some") q1) (.BinOp (.Name (Str.ofString "k") q2) .Add (.Constant (.int 1) j2 q3) q4) q5) (.Constant (.int 0) j3 q6) q7] r) n Pi fun i => IsB (tr i) := by
  intro pins σ H1 s1 n Pi tr I hP hC cenv A' i v m hA hPi hm
  obtain ⟨p, ss, hσ, hp, hb, rfl, rfl, rfl⟩ := hC
  obtain ⟨hi, t, rfl⟩ := hPi
  have hk1 : i + 1 < ss.length := by omega
  have hk0 : i < ss.length := by omega
  obtain ⟨ps, hPs, _⟩ := hP
  have hPo : ∃ ps, s1.heap.get? Pt = some { cls := .none, data := .fields ps } := ⟨ps, I.hok Pt _ hPs⟩
  have e0 : ∀ {j : Nat} (h : j < ss.length), (ss.map Prod.snd).getD j (0, 0) = ss[j].2 := fun {j} h => by
    rw [List.getD_eq_getElem?_getD, List.getElem?_map, List.getElem?_eq_getElem h]
    rfl
  have e1 : ∀ {j : Nat} (h : j < ss.length), (ss.map fun b => V.ref b.1)[j]? = some (.ref ss[j].1) := fun {j} h => by
    rw [List.getElem?_map, List.getElem?_eq_getElem h]
    rfl
  show GE X Pt s1 scope cenv m A' _ (IsB (decide (((ss.map Prod.snd).getD i (0, 0)).2 ≤ ((ss.map Prod.snd).getD (i + 1) (0, 0)).1)))
  rw [e0 hk0, e0 hk1]
  exact ge_le (ge_item I hPo (ge_itemL I hPo (ge_free (i := 6) I hPo hN hσ h1 hx hfree (fun u r => r)) (ge_loc h2 hm ⟨_, rfl⟩) (SqL.of hp) (e1 hk0) (fun u r => r) (fun _ _ => rfl)) ge_int (SqT.of (hb _ (List.getElem_mem hk0))) (atI_nat (j := 1) rfl) (fun u r => r) (fun _ _ => rfl))
    (ge_item I hPo (ge_itemL (i := i + 1) I hPo (ge_free (i := 6) I hPo hN hσ h1 hx hfree (fun u r => r)) (ge_add (i := (i : Nat)) (j := 1) (ge_loc h2 hm ⟨_, rfl⟩) ge_int) (SqL.of hp) (e1 hk1) (fun u r => r) (fun _ _ => rfl)) ge_int (SqT.of (hb _ (List.getElem_mem hk1))) (atI_nat (j := 0) rfl) (fun u r => r) (fun _ _ => rfl))
theorem Fs.okShows (S : Fs K mg base) {k : Nat} : FnOk P w K mg base CX0 (k + 4) S.shows.a S.shows.fd ["jobs", "value"] (spShows S.T) := by
  have GN : FnOk P w K mg base CX0 (k + 3) S.need.a S.need.fd ["jobs"] (spNeed S.T) := S.okNeed
  have GR : FnOk P w K mg base CX0 (k + 3) S.row.a S.row.fd ["value", "many"] (spRow S.T) := S.okRow
  have g := S.g
  have TB := S.shows.t
  refine S.shows.F.ok scShows (fun vs H Q E h => ?_) (fun A outer s H vs Q E hr h => ?_)
  · obtain ⟨a, js, v, r, rfl, _⟩ := h; rfl
  · obtain ⟨a, js, v, r, rfl, hJ, hok, hv, tb, q⟩ := h
    refine ⟨_,
(pss_cons (ps_expr (pe_call GN hr (by rfl) S.need.g S.need.F.kp S.need.b .nil pass0 (pa_cons (pv 0) pa_nil)))
      (pss_cons (ps_if (pt_not (pt_val (pe_call GR hr (by rfl) S.row.g S.row.F.kp S.row.b .nil pass0 (pa_cons (pv 1) (pa_cons (pe_callB call_len_seq (by rfl) g.len (by decide +kernel) (pa_cons (pv 0) pa_nil)) pa_nil))))) (pss_one (ps_ret pe_bl)) pss_nil)
      (pss_cons (ps_for PassesOwn.never rfl (pi_enumT (by rfl) g.enum (pa_cons (pv 0) pa_nil)) (pg_tup rfl (pgs_cons (pg_name (i := 2) scShows.nd rfl (Or.inl rfl)) (pgs_cons (pg_tup rfl (pgs_cons (pg_name (i := 3) scShows.nd rfl (Or.inl rfl)) (pgs_cons (pg_name (i := 4) scShows.nd rfl (Or.inl rfl)) (pgs_cons (pg_name (i := 5) scShows.nd rfl (Or.inl rfl)) pgs_nil)))) pgs_nil)))
      (pss_one (ps_if (PW.pt (pw_or (pt_cmpR op_lt (pe_ix ix_tup (pv 1) (pv 2) (fun _ _ => rfl)) (pv 3) (nomark _)) (pw_or1 (pt_cmpR op_gt (pe_op op_add (pe_ix ix_tup (pv 1) (pv 2) (fun _ _ => rfl)) (pv 4)) (pv 5) (nomark _))))) (pss_one (ps_ret pe_bl)) pss_nil)))
      (pss_cons (ps_set (i := 6) scShows.nd rfl (Or.inr rfl) (pe_callB (cr_sortedDat hr) (by rfl) g.sorted (by decide +kernel) (pa_cons (pe_lc (own := [("k", 2)]) rfl scShows.nd (pi_range1 (by rfl) g.range (pa_cons (pe_callB call_len_seq (by rfl) g.len (by decide +kernel) (pa_cons (pv 0) pa_nil)) pa_nil)) (blkOk_by (N := ["jobs", "value", "k", "arrival", "length", "due", "some"]) (sc := defScope sShows) (own := [("k", 2)]) (by decide +kernel)) (fun _ _ _ _ _ => (pg_name (i := 2) scShows.nd rfl (Or.inl rfl))) (fun _ _ _ _ _ => pts_nil) (fun _ _ _ _ _ => (pe_tup (pa_cons (pe_ix (r := rIxT K) ix_tup (pv 1) (pv 2) (fun _ _ => rfl)) (pa_cons (pe_op op_add (pe_ix (r := rIxT K) ix_tup (pv 1) (pv 2) (fun _ _ => rfl)) (pe_ix (r := rIxT K) ix_tup (pe_ix (r := rIxT K) ix_tup (pv 0) (pv 2) (fun _ _ => rfl)) pe_int (fun _ _ => rfl))) pa_nil))))) pa_nil)))
      (pss_one (ps_ret (pe_allG (C := CApt) hr (by rfl) g.all TB rfl ⟨rfl, rfl, by decide +kernel, rfl, rfl, free_by (sc := defScope sShows) (n := s.heap.objs.size + 1) rfl (by decide +kernel)⟩ (psrc_range (by rfl) g.range (pa_cons (pe_op op_sub (pe_callB call_len_seq (by rfl) g.len (by decide +kernel) (pa_cons (pv 6) pa_nil)) pe_int) pa_nil)) (elt_apt rfl rfl (free_by (sc := defScope sShows) (n := s.heap.objs.size + 1) rfl (by decide +kernel)) rfl rfl) (fun _ => rfl))))))))
      , ?_⟩
    obtain ⟨as, hA, hp⟩ := id hJ
    have hl : as.length = js.length := hp.length
    refine ⟨_, rfl, a, js, rfl, hJ, hok, fun H1 e1 => ?_⟩
    refine ⟨_, rfl, _, rfl, a, _, rfl, .inr (SqT.of (e1.tup hA)), v, js.length, r, by rw [List.length_map, hl]; rfl, hv.to e1, e1.tabs tb, fun H2 e2 => ⟨_, rfl, ?_⟩⟩
    have e02 := e1.trans e2
    cases hro : rowOk r js.length with
    | false =>
      have ej : judge js r = false := by unfold judge; rw [hro]; rfl
      refine iteT ?_
      have := q H2 e02
      rw [ej] at this
      exact this
    | true =>
      obtain ⟨xs, rfl⟩ : ∃ xs, r = some xs := by
        cases r with
        | none => cases hro
        | some xs => exact ⟨xs, rfl⟩
      obtain ⟨b, rfl, hB⟩ : ∃ b, v = .ref b ∧ H b = some (.tup xs) := by
        cases hv with
        | tup h _ => exact ⟨_, rfl, h⟩
      have hro' : (decide (xs.length = js.length) && xs.all isIntV) = true := hro
      rw [Bool.and_eq_true, decide_eq_true_eq, List.all_eq_true] at hro'
      obtain ⟨hxl, hxi⟩ := hro'
      have hz : ∀ k, k < js.length → xs[k]? = some (.int (zOf (some xs) k)) := fun k hk => by
        have hk' : k < xs.length := by omega
        have h1 := hxi _ (List.getElem_mem hk')
        have h2 : zOf (some xs) k = iv xs[k] := by
          unfold zOf
          rw [Option.getD_some, List.getD_eq_getElem?_getD, List.getElem?_eq_getElem hk']
          rfl
        rw [List.getElem?_eq_getElem hk', h2]
        cases hx : xs[k] with
        | int i => rfl
        | _ => rw [hx] at h1; cases h1
      have ej : judge js (some xs) = ((List.range js.length).all (win js (zOf (some xs))) && apart (srtP (prs js (zOf (some xs))))) := by unfold judge; rw [hro]; rfl
      rw [ej] at q
      generalize zOf (some xs) = z at hz q
      have tbl : ∀ {H9 : Hp}, Ext S.T H H9 → GxR.TabG H9 S.shows.pt := fun e => e.tabs tb _ (List.mem_cons_of_mem _ (List.mem_cons_of_mem _ List.mem_cons_self))
      refine iteF ⟨_, rfl, a, _, rfl, SqT.of (e02.tup hA), for_it (walk_enumT (K := K) (xs := as.map V.ref)) (fun i σ H3 => ∃ y2 y3 y4 y5, σ = [some (.ref a), some (.ref b), y2, y3, y4, y5, none] ∧ Ext S.T H H3 ∧ ∀ k, k < i → win js z k = true) ⟨none, none, none, none, rfl, e02, fun k h => absurd h (Nat.not_lt_zero k)⟩ (fun i σ H3 _ h => ?_) (fun i x σ H3 H4 hi h hy => ?_) (fun σ H3 h => ?_)⟩
      · obtain ⟨_, _, _, _, _, e, _⟩ := h
        exact e.sqT (SqT.of hA)
      · obtain ⟨y2, y3, y4, y5, rfl, e3, hw⟩ := h
        obtain ⟨Tp, u, v, rfl, hT, rfl, hu, hv2⟩ := hy
        have hu' := Option.some.inj hu
        subst hu'
        have hv2 : (as.map V.ref)[i]? = some v := hv2
        rw [List.getElem?_map] at hv2
        obtain ⟨p, hp1, rfl⟩ := Option.map_eq_some_iff.mp hv2
        obtain ⟨j, hj, hpj⟩ := paired_get' hp hp1
        have e4 : Ext S.T H (upd H3 Tp (.tup [.int (i : Nat), .ref p])) := e3.trans (Ext.new hT)
        have hil : i < js.length := (List.getElem?_eq_some_iff.mp hj).1
        have ejb : jobAt js i = j := by
          unfold jobAt
          rw [List.getD_eq_getElem?_getD, hj]
          rfl
        refine ⟨Tp, _, rfl, SqT.of upd_same, rfl, _, _, rfl, _, _, rfl, p, _, rfl, SqT.of (e4.tup hpj), rfl, _, _, rfl, _, _, rfl, _, _, rfl, rfl, rfl, ?_⟩
        have hwi : win js z i = !(decide (z i < j.1) || decide (j.2.2 < z i + j.2.1)) := by unfold win arr lng due; rw [ejb]
        have bad : win js z i = false → Q (.bl false) (upd H3 Tp (.tup [.int (i : Nat), .ref p])) := fun hf => by
          have ef : ((List.range js.length).all (win js z) && apart (srtP (prs js z))) = false := by
            rw [Bool.and_eq_false_iff]
            left
            rw [List.all_eq_false]
            exact ⟨i, List.mem_range.mpr hil, by rw [hf]; simp⟩
          have := q _ e4
          rw [ef] at this
          exact this
        refine ⟨_, rfl, _, rfl, b, _, _, _, rfl, rfl, SqT.of (e4.tup hB), atI_nat (hz i hil), _, rfl, _, _, rfl, rfl, _, rfl, ite2 (fun h1 => ?_) (fun h1 => ?_)⟩
        · exact bad (by rw [hwi, h1]; rfl)
        · refine ⟨_, rfl, _, rfl, b, _, _, _, rfl, rfl, SqT.of (e4.tup hB), atI_nat (hz i hil), _, rfl, _, _, rfl, rfl, _, rfl, _, _, rfl, rfl, _, rfl, ite2 (fun h2 => ?_) (fun h2 => ?_)⟩
          · exact bad (by rw [hwi, h2, Bool.or_true]; rfl)
          · refine ⟨_, _, _, _, rfl, e4, fun k hk => ?_⟩
            rcases Nat.lt_succ_iff_lt_or_eq.mp hk with hk | rfl
            · exact hw k hk
            · rw [hwi, Bool.eq_false_iff.mpr h1, Bool.eq_false_iff.mpr h2]; rfl
      · obtain ⟨y2, y3, y4, y5, rfl, e3, hw⟩ := h
        have hlm : (as.map V.ref).length = js.length := by rw [List.length_map, hl]
        rw [hlm] at hw
        have hall : (List.range js.length).all (win js z) = true := by
          rw [List.all_eq_true]
          exact fun k hk => hw k (List.mem_range.mp hk)
        rw [hall, Bool.true_and] at q
        have hn7 := hok.2.1
        refine ⟨_, rfl, a, _, rfl, .inr (SqT.of (e3.tup hA)), (js.length : Nat), by rw [hlm], by omega, by omega, fun D nD => ?_⟩
        refine lc_range (n := js.length) (fun i H5 => Ext S.T H H5 ∧ ∃ bs : List (Addr × Int × Int), H5 D = some (.lst (bs.map fun b => V.ref b.1)) ∧ bs.map Prod.snd = (List.range i).map (pairAt js z) ∧ ∀ b ∈ bs, H5 b.1 = some (.tup [.int b.2.1, .int b.2.2])) ⟨e3.trans (Ext.new nD), [], upd_same, rfl, fun _ h => nomatch h⟩ (fun i H5 hi h => ?_) (fun H5 h => ?_)
        · obtain ⟨e5, bs, hD, hbs, hbt⟩ := h
          have ez : (0 : Int) + (i : Nat) = (i : Nat) := Int.zero_add _
          rw [ez]
          obtain ⟨xs5, p, hA5, hat, hpj⟩ := (hJ.to e5).get hi
          refine ⟨rfl, _, rfl, _, rfl, b, _, _, _, rfl, rfl, SqT.of (e5.tup hB), atI_nat (hz i hi), _, rfl, _, rfl, b, _, _, _, rfl, rfl, SqT.of (e5.tup hB), atI_nat (hz i hi), _, rfl, _, rfl, a, _, _, _, rfl, rfl, SqT.of hA5, hat, p, _, _, _, rfl, rfl, SqT.of hpj, atI_nat (j := 1) rfl, _, _, rfl, rfl, small8 (by simp), fun t nt => ?_⟩
          have hDt : D ≠ t := ne_of_none hD nt
          have hlb : bs.length = i := by
            have := congrArg List.length hbs
            simpa using this
          refine ⟨bs.map (fun b => V.ref b.1), by rw [upd_ne hDt]; exact hD, small7 (by rw [List.length_map]; omega), (e5.trans (Ext.new nt)).put (e3.old _ nD), bs ++ [(t, pairAt js z i)], ?_, ?_, fun b' hb' => ?_⟩
          · rw [upd_same, List.map_append]; rfl
          · rw [List.map_append, hbs, List.range_succ, List.map_append]; rfl
          · rcases List.mem_append.mp hb' with hb' | hb'
            · have := hbt b' hb'
              rw [upd_ne (ne_of (this) hD (by intro z; cases z)), upd_ne (ne_of_none this nt)]
              exact this
            · have : b' = (t, pairAt js z i) := by simpa using hb'
              subst this
              rw [upd_ne (Ne.symm hDt), upd_same]
              rfl
        · obtain ⟨e5, bs, hD, hbs, hbt⟩ := h
          refine ⟨_, D, bs, fun b => .ref b.1, fun b => .tuple [.int b.2.1, .int b.2.2], rfl, .inl (SqL.of hD), fun b hb => dp_ii (hbt b hb), al_ii, so_ii, fun _ _ => de_ii, fun p np => ?_⟩
          obtain ⟨ss, ess, pm, so⟩ := ms_ii bs (fun b => b.2.1) (fun b => b.2.2)
          rw [ess]
          have e6 : Ext S.T H (upd H5 p (.lst (ss.map fun b => V.ref b.1))) := e5.trans (Ext.new np)
          have esr : ss.map Prod.snd = srtP (prs js z) := by
            refine srtP_uniq ?_ (List.pairwise_map.mpr so)
            have := pm.map Prod.snd
            rw [hbs] at this
            exact this
          have hsl : ss.length = js.length := by
            have h1 := pm.length_eq
            have h2 := congrArg List.length hbs
            simp only [List.length_map, List.length_range] at h2
            omega
          have hn1 := hok.1
          refine ⟨_, rfl, p, _, rfl, .inl (SqL.of upd_same), _, _, rfl, rfl, _, rfl, by rw [List.length_map]; omega, by rw [List.length_map]; omega, tbl e6, tbl e6, _, ⟨p, ss, rfl, upd_same, fun b hb => ?_, ?_, rfl, rfl⟩, fun H7 hT7 => ?_⟩
          · have h1 := hbt b (pm.mem_iff.mp hb)
            rw [upd_ne (ne_of_none h1 np)]
            exact h1
          · rw [List.length_map]; omega
          · have := q H7 (e6.trans (Ext.tab hT7 (tbl e6)))
            rw [← esr] at this
            have e9 : (((ss.map fun b => V.ref b.1).length : Int) - 1).toNat = (ss.map Prod.snd).length - 1 := by rw [List.length_map, List.length_map]; omega
            rw [e9]
            exact this

/-! ### _law_is_starts -/
def dat : V → PyData
  | .int i => .int i
  | .bl b => .bool b
  | .str x => .str x
  | _ => .none
theorem dp_flat {H : Hp} : ∀ {x : V}, flat x = true → Dp K H x (dat x)
  | .int i, _ => .int i
  | .bl b, _ => .bl b
  | .str x, _ => .str x
  | .non, _ => .non
  | .byt _, h => nomatch h
  | .flt _, h => nomatch h
  | .ref _, h => nomatch h
  | .ty _, h => nomatch h
theorem dp_flats {H : Hp} : ∀ {xs : List V}, (∀ x ∈ xs, flat x = true) → DpAll K H xs (xs.map dat)
  | [], _ => .nil
  | x :: xs, h => .cons (dp_flat (h x List.mem_cons_self)) (dp_flats fun y hy => h y (List.mem_cons_of_mem _ hy))
theorem dat_plain : ∀ x : V, flat x = true → (dat x).canLay0 = true ∧ (dat x).depth = 0
  | .int i, _ => ⟨by simp [dat, PyData.canLay0], by simp [dat, PyData.depth]⟩
  | .bl b, _ => ⟨by simp [dat, PyData.canLay0], by simp [dat, PyData.depth]⟩
  | .str x, h => ⟨by have h' : PyData.strOk x = true := h
                     simpa [dat, PyData.canLay0] using h', by simp [dat, PyData.depth]⟩
  | .non, _ => ⟨by simp [dat, PyData.canLay0], by simp [dat, PyData.depth]⟩
  | .byt _, h => nomatch h
  | .flt _, h => nomatch h
  | .ref _, h => nomatch h
  | .ty _, h => nomatch h
theorem dats_plain : ∀ xs : List V, (∀ x ∈ xs, flat x = true) → PyData.canLayAll0 (xs.map dat) = true ∧ PyData.depthAll (xs.map dat) = 0
  | [], _ => ⟨by simp [PyData.canLayAll0], by simp [PyData.depthAll]⟩
  | x :: xs, h => by
    obtain ⟨a, b⟩ := dat_plain x (h x List.mem_cons_self)
    obtain ⟨c, d⟩ := dats_plain xs fun y hy => h y (List.mem_cons_of_mem _ hy)
    exact ⟨by simp [PyData.canLayAll0, a, c], by simp [PyData.depthAll, b, d]⟩
theorem shaped_dats {xs : List V} (h : ∀ x ∈ xs, flat x = true) : SeqAt.shaped (.list (xs.map dat)) = true := by
  obtain ⟨c, d⟩ := dats_plain xs h
  simp [SeqAt.shaped, PyData.canLay0, PyData.depth, c, d]
theorem eqv_nil (ds : List PyData) : PyData.eqv (.list ds) (.list []) = ds.isEmpty := by
  cases ds <;> simp [PyData.eqv, PyData.eqvAll]
theorem kints_flat' (ks : List Nat) : ∀ x ∈ KInts ks, flat x = true := by
  intro x hx
  obtain ⟨k, _, rfl⟩ := List.mem_map.mp hx
  rfl
theorem filt_empty {α : Type} (p : α → Bool) : ∀ l : List α, (l.filter fun x => !p x).isEmpty = l.all p
  | [] => rfl
  | x :: l => by
    rw [List.filter_cons, List.all_cons, ← filt_empty p l]
    cases p x <;> simp
theorem filt_snoc {α : Type} (p : α → Bool) (l : List α) (x : α) : (l ++ [x]).filter p = l.filter p ++ (if p x = true then [x] else []) := by
  rw [List.filter_append]
  by_cases h : p x = true
  · rw [if_pos h]; simp [List.filter, h]
  · rw [if_neg h]; simp [List.filter, h]
theorem map_empty {α β : Type} (f : α → β) (l : List α) : (l.map f).isEmpty = l.isEmpty := by cases l <;> rfl
def spIsSt (T : List Addr) : Sp := fun vs H Q _ => ∃ (a : Addr) (js : List Job) (v : V) (r : Option (List V)), vs = [.ref a, v] ∧ JobsAt H a js ∧ JobsOk js ∧ ArgV H v r ∧ ∀ H', Ext T H H' → Q (.bl (judge js r)) H'
theorem Fs.okIsSt (S : Fs K mg base) {k : Nat} : FnOk P w K mg base CX0 (k + 1) S.isst.a S.isst.fd ["_law_jobs_here", "_law_value"] (spIsSt S.T) := by
  have g := S.g
  refine S.isst.F.ok scIsSt (fun vs H Q E h => ?_) (fun cdv A outer s H vs Q E hr h => ?_)
  · obtain ⟨a, js, v, r, rfl, _⟩ := h; rfl
  · obtain ⟨a, js, v, r, rfl, hJ, hok, hv, q⟩ := h
    have hu : (cxOf CX0 P w K mg base ["_law_jobs_here", "_law_value", "_law_some", "_law_k", "_law_one"] "_law_is_starts" (defScope sIsSt) S.isst.a cdv A outer s H E).nox.A.units + 64 < cLine := hr.units
    refine ⟨_,
(pss_cons (ps_if (PW.pt (pw_or (pt_not (pt_val (pe_callB call_isi (by rfl) g.isi (by decide +kernel) (pa_cons (pv 1) (pa_cons (pe_bltn (v := .ty "tuple") (by rfl) g.tuple (by decide +kernel) rfl) pa_nil))))) (pw_or1 (pt_cmpR op_ne (pe_callB call_len_seq (by rfl) g.len (by decide +kernel) (pa_cons (pv 1) pa_nil)) (pe_callB call_len_seq (by rfl) g.len (by decide +kernel) (pa_cons (pv 0) pa_nil)) (nomark _))))) (pss_one (ps_ret pe_bl)) pss_nil)
      (pss_cons (ps_if (pt_cmpR (op_neD hu) (pe_lc (own := [("_law_one", 4)]) rfl scIsSt.nd (pi_tup (pv 1)) (blkOk_by (N := ["_law_jobs_here", "_law_value", "_law_some", "_law_k", "_law_one"]) (sc := defScope sIsSt) (own := [("_law_one", 4)]) (by decide +kernel)) (fun _ _ _ _ _ => (pg_name (i := 4) scIsSt.nd rfl (Or.inl rfl))) (fun _ _ _ _ _ => pts_one (PW.pt (pw_or (pt_not (pt_val (pe_callB (r := rIsi K) call_isi (by rfl) g.isi (by decide +kernel) (pa_cons (pv 4) (pa_cons (pe_bltn (v := .ty "int") (by rfl) g.int (by decide +kernel) rfl) pa_nil))))) (pw_or1 (pt_val (pe_callB (r := rIsi K) call_isi (by rfl) g.isi (by decide +kernel) (pa_cons (pv 4) (pa_cons (pe_bltn (v := .ty "bool") (by rfl) g.bool (by decide +kernel) rfl) pa_nil)))))))) (fun _ _ _ _ _ => (pv 4))) (pe_lst pa_nil) (nomark _)) (pss_one (ps_ret pe_bl)) pss_nil)
      (pss_cons (ps_if (pt_cmpR (op_neD hu) (pe_lc (own := [("_law_k", 3)]) rfl scIsSt.nd (pi_range1 (by rfl) g.range (pa_cons (pe_callB call_len_seq (by rfl) g.len (by decide +kernel) (pa_cons (pv 0) pa_nil)) pa_nil)) (blkOk_by (N := ["_law_jobs_here", "_law_value", "_law_some", "_law_k", "_law_one"]) (sc := defScope sIsSt) (own := [("_law_k", 3)]) (by decide +kernel)) (fun _ _ _ _ _ => (pg_name (i := 3) scIsSt.nd rfl (Or.inl rfl))) (fun _ _ _ _ _ => pts_one (PW.pt (pw_or (pt_cmpR op_lt (pe_ix (r := rIxT K) ix_tup (pv 1) (pv 3) (fun _ _ => rfl)) (pe_ix (r := rIxT K) ix_tup (pe_ix (r := rIxT K) ix_tup (pv 0) (pv 3) (fun _ _ => rfl)) pe_int (fun _ _ => rfl)) (nomark _)) (pw_or1 (pt_cmpR op_gt (pe_op op_add (pe_ix (r := rIxT K) ix_tup (pv 1) (pv 3) (fun _ _ => rfl)) (pe_ix (r := rIxT K) ix_tup (pe_ix (r := rIxT K) ix_tup (pv 0) (pv 3) (fun _ _ => rfl)) pe_int (fun _ _ => rfl))) (pe_ix (r := rIxT K) ix_tup (pe_ix (r := rIxT K) ix_tup (pv 0) (pv 3) (fun _ _ => rfl)) pe_int (fun _ _ => rfl)) (nomark _)))))) (fun _ _ _ _ _ => (pv 3))) (pe_lst pa_nil) (nomark _)) (pss_one (ps_ret pe_bl)) pss_nil)
      (pss_cons (ps_set (i := 2) scIsSt.nd rfl (Or.inr rfl) (pe_callB (cr_sortedDat hr) (by rfl) g.sorted (by decide +kernel) (pa_cons (pe_lc (own := [("_law_k", 3)]) rfl scIsSt.nd (pi_range1 (by rfl) g.range (pa_cons (pe_callB call_len_seq (by rfl) g.len (by decide +kernel) (pa_cons (pv 0) pa_nil)) pa_nil)) (blkOk_by (N := ["_law_jobs_here", "_law_value", "_law_some", "_law_k", "_law_one"]) (sc := defScope sIsSt) (own := [("_law_k", 3)]) (by decide +kernel)) (fun _ _ _ _ _ => (pg_name (i := 3) scIsSt.nd rfl (Or.inl rfl))) (fun _ _ _ _ _ => pts_nil) (fun _ _ _ _ _ => (pe_tup (pa_cons (pe_ix (r := rIxT K) ix_tup (pv 1) (pv 3) (fun _ _ => rfl)) (pa_cons (pe_op op_add (pe_ix (r := rIxT K) ix_tup (pv 1) (pv 3) (fun _ _ => rfl)) (pe_ix (r := rIxT K) ix_tup (pe_ix (r := rIxT K) ix_tup (pv 0) (pv 3) (fun _ _ => rfl)) pe_int (fun _ _ => rfl))) pa_nil))))) pa_nil)))
      (pss_one (ps_ret (pe_cmpR (op_eqD hu) (pe_lc (own := [("_law_k", 3)]) rfl scIsSt.nd (pi_range2 (by rfl) g.range (pa_cons pe_int (pa_cons (pe_callB call_len_seq (by rfl) g.len (by decide +kernel) (pa_cons (pv 2) pa_nil)) pa_nil))) (blkOk_by (N := ["_law_jobs_here", "_law_value", "_law_some", "_law_k", "_law_one"]) (sc := defScope sIsSt) (own := [("_law_k", 3)]) (by decide +kernel)) (fun _ _ _ _ _ => (pg_name (i := 3) scIsSt.nd rfl (Or.inl rfl))) (fun _ _ _ _ _ => pts_one (pt_cmpR op_lt (pe_ix (r := rIxT K) ix_tup (pe_ix (r := rIxL K) ix_list (pv 2) (pv 3) (fun _ _ => rfl)) pe_int (fun _ _ => rfl)) (pe_ix (r := rIxT K) ix_tup (pe_ix (r := rIxL K) ix_list (pv 2) (pe_op op_sub (pv 3) pe_int) (fun _ _ => rfl)) pe_int (fun _ _ => rfl)) (nomark _))) (fun _ _ _ _ _ => (pv 3))) (pe_lst pa_nil) (nomark _))))))))
      , ?_⟩
    obtain ⟨as, hA, hp⟩ := id hJ
    have hl : as.length = js.length := hp.length
    obtain ⟨t, ty, kt⟩ := hv.isi (K := K)
    refine ⟨_, rfl, _, _, _, _, _, rfl, .ty _, ty, kt, _, rfl, ?_⟩
    cases hv with
    | lst h => exact iteT (q H (Ext.refl _ H))
    | dK h => exact iteT (q H (Ext.refl _ H))
    | non => exact iteT (q H (Ext.refl _ H))
    | int i => exact iteT (q H (Ext.refl _ H))
    | @tup b xs hB hf =>
      refine iteF ⟨_, rfl, b, _, rfl, .inr (SqT.of hB), _, rfl, a, _, rfl, .inr (SqT.of hA), rfl, _, rfl, ite2 (fun e => ?_) (fun e => ?_)⟩
      · have ej : judge js (some xs) = false := by
          unfold judge
          have : rowOk (some xs) js.length = false := by
            show (decide (xs.length = js.length) && xs.all isIntV) = false
            rw [Bool.and_eq_false_iff]
            left
            rw [decide_eq_false_iff_not]
            intro z
            rw [List.length_map, hl, z] at e
            simp at e
          rw [this]; rfl
        have := q H (Ext.refl _ H)
        rw [ej] at this
        exact this
      · have hxl : xs.length = js.length := by
          rw [List.length_map, hl] at e
          have e' : decide (V.int (xs.length : Nat) = V.int (js.length : Nat)) = true := by simpa using e
          have := of_decide_eq_true e'
          injection this with this
          omega
        have hn7 := hok.2.1
        refine ⟨_, rfl, b, rfl, ⟨_, SqT.of hB⟩, fun D nD => ?_⟩
        refine lc_it (walk_tup (K := K) (xs := xs)) (fun i H3 => Ext S.T H H3 ∧ H3 D = some (.lst ((xs.take i).filter fun x => !isIntV x))) ⟨Ext.new nD, upd_same⟩ (fun i H3 _ h => SqT.of (h.1.tup hB)) (fun i x H3 H4 hi h hy => ?_) (fun H3 h => ?_)
        · obtain ⟨rfl, hx⟩ := hy
          obtain ⟨e3, hD⟩ := h
          have hfx := hf x (List.mem_of_getElem? hx)
          have hsz : ((xs.take i).filter fun x => !isIntV x).length < sizeLine := by
            have h1 := List.length_filter_le (fun x => !isIntV x) (xs.take i)
            rw [List.length_take] at h1
            exact small7 (by omega)
          have hgo : isIntV x = false → Ext S.T H (upd H4 D (.lst (((xs.take i).filter fun x => !isIntV x) ++ [x]))) ∧ upd H4 D (.lst (((xs.take i).filter fun x => !isIntV x) ++ [x])) D = some (.lst ((xs.take (i + 1)).filter fun x => !isIntV x)) := fun hx' => by
            refine ⟨e3.put nD, ?_⟩
            rw [upd_same, take_snoc hx, filt_snoc, hx']
            rfl
          cases x with
          | int j =>
            refine ⟨rfl, _, rfl, _, _, _, _, true, rfl, .ty _, .base (.int j), isi_ii, true, rfl, _, rfl, _, _, _, _, false, rfl, .ty _, .base (.int j), isi_ib, false, rfl, e3, ?_⟩
            rw [take_snoc hx, filt_snoc]
            simpa [isIntV] using hD
          | bl c => exact ⟨rfl, _, rfl, _, _, _, _, true, rfl, .ty _, .base (.bl c), isi_bi, true, rfl, _, rfl, _, _, _, _, true, rfl, .ty _, .base (.bl c), isi_bb, true, rfl, _, rfl, _, hD, hsz, hgo rfl⟩
          | non => exact ⟨rfl, _, rfl, _, _, _, _, false, rfl, .ty _, .base .non, isi_ni, false, rfl, _, rfl, _, hD, hsz, hgo rfl⟩
          | str c => exact ⟨rfl, _, rfl, _, _, _, _, false, rfl, .ty _, .base (.str c), isi_si, false, rfl, _, rfl, _, hD, hsz, hgo rfl⟩
          | byt _ => cases hfx
          | flt _ => cases hfx
          | ref _ => cases hfx
          | ty _ => cases hfx
        obtain ⟨e3, hD⟩ := h
        rw [List.take_length] at hD
        refine ⟨Nat.zero_le _, fun E0 nE => ?_⟩
        have e4 : Ext S.T H (upd H3 E0 (.lst [])) := e3.trans (Ext.new nE)
        have hDE : D ≠ E0 := ne_of_none hD nE
        have hff : ∀ x ∈ xs.filter (fun x => !isIntV x), flat x = true := fun x hx => hf x (List.mem_filter.mp hx).1
        refine ⟨.list ((xs.filter fun x => !isIntV x).map dat), .list [], .lst (SqL.of (by rw [upd_ne hDE]; exact hD)) (dp_flats hff), .lst (SqL.of upd_same) .nil, shaped_dats hff, shaped_dats (xs := []) (fun _ h => nomatch h), _, rfl, ?_⟩
        rw [eqv_nil, map_empty, filt_empty]
        refine ite2 (fun ei => ?_) (fun ei => ?_)
        · have ej : judge js (some xs) = false := by
            unfold judge
            have : rowOk (some xs) js.length = false := by
              show (decide (xs.length = js.length) && xs.all isIntV) = false
              rw [Bool.and_eq_false_iff]
              right
              simpa using ei
            rw [this]; rfl
          have := q _ e4
          rw [ej] at this
          exact this
        have hxi : xs.all isIntV = true := by simpa using ei
        have hro : rowOk (some xs) js.length = true := by
          show (decide (xs.length = js.length) && xs.all isIntV) = true
          rw [decide_eq_true hxl, hxi]; rfl
        have hz : ∀ k, k < js.length → xs[k]? = some (.int (zOf (some xs) k)) := fun k hk => by
          have hk' : k < xs.length := by omega
          have h1 := List.all_eq_true.mp hxi _ (List.getElem_mem hk')
          have h2 : zOf (some xs) k = iv xs[k] := by
            unfold zOf
            rw [Option.getD_some, List.getD_eq_getElem?_getD, List.getElem?_eq_getElem hk']
            rfl
          rw [List.getElem?_eq_getElem hk', h2]
          cases hx : xs[k] with
          | int i => rfl
          | _ => rw [hx] at h1; cases h1
        have ej : judge js (some xs) = ((List.range js.length).all (win js (zOf (some xs))) && apart (srtP (prs js (zOf (some xs))))) := by unfold judge; rw [hro]; rfl
        rw [ej] at q
        generalize zOf (some xs) = z at hz q
        -- the windows
        have hlm : (as.map V.ref).length = js.length := by rw [List.length_map, hl]
        refine ⟨_, rfl, a, _, rfl, .inr (SqT.of (e4.tup hA)), (js.length : Nat), by rw [hlm], by omega, by omega, fun W nW => ?_⟩
        refine lc_range (n := js.length) (fun i H5 => Ext S.T H H5 ∧ H5 W = some (.lst (KInts ((List.range i).filter fun k => !win js z k)))) ⟨e4.trans (Ext.new nW), upd_same⟩ (fun i H5 hi h => ?_) (fun H5 h => ?_)
        · obtain ⟨e5, hW⟩ := h
          have ez : (0 : Int) + (i : Nat) = (i : Nat) := Int.zero_add _
          rw [ez]
          obtain ⟨xs5, p, hA5, hat, hpj⟩ := (hJ.to e5).get hi
          have hsz : (KInts ((List.range i).filter fun k => !win js z k)).length < sizeLine := by
            unfold KInts
            rw [List.length_map]
            have h1 := List.length_filter_le (fun k => !win js z k) (List.range i)
            rw [List.length_range] at h1
            exact small7 (by omega)
          have hgo : win js z i = false → Ext S.T H (upd H5 W (.lst (KInts ((List.range i).filter fun k => !win js z k) ++ [.int (i : Nat)]))) ∧ upd H5 W (.lst (KInts ((List.range i).filter fun k => !win js z k) ++ [.int (i : Nat)])) W = some (.lst (KInts ((List.range (i + 1)).filter fun k => !win js z k))) := fun hw => by
            refine ⟨e5.put (e4.old _ nW), ?_⟩
            rw [upd_same, List.range_succ, filt_snoc, hw]
            simp [KInts]
          refine ⟨rfl, _, rfl, _, rfl, b, _, _, _, rfl, rfl, SqT.of (e5.tup hB), atI_nat (hz i hi), _, rfl, _, rfl, a, _, _, _, rfl, rfl, SqT.of hA5, hat, p, _, _, _, rfl, rfl, SqT.of hpj, atI_nat (j := 0) rfl, _, _, rfl, rfl, _, rfl, ite2 (fun h1 => ?_) (fun h1 => ?_)⟩
          · exact ⟨_, rfl, _, hW, hsz, hgo (by show (!(decide (z i < (jobAt js i).1) || _)) = false; rw [h1]; rfl)⟩
          · refine ⟨_, rfl, _, rfl, b, _, _, _, rfl, rfl, SqT.of (e5.tup hB), atI_nat (hz i hi), _, rfl, _, rfl, a, _, _, _, rfl, rfl, SqT.of hA5, hat, p, _, _, _, rfl, rfl, SqT.of hpj, atI_nat (j := 1) rfl, _, _, rfl, rfl, _, rfl, _, rfl, a, _, _, _, rfl, rfl, SqT.of hA5, hat, p, _, _, _, rfl, rfl, SqT.of hpj, atI_nat (j := 2) rfl, _, _, rfl, rfl, _, rfl, ite2 (fun h2 => ?_) (fun h2 => ?_)⟩
            · exact ⟨_, rfl, _, hW, hsz, hgo (by show (!(_ || decide ((jobAt js i).2.2 < z i + (jobAt js i).2.1))) = false; rw [h2, Bool.or_true]; rfl)⟩
            · have hw : win js z i = true := by
                show (!(decide (z i < (jobAt js i).1) || decide ((jobAt js i).2.2 < z i + (jobAt js i).2.1))) = true
                rw [Bool.eq_false_iff.mpr h1, Bool.eq_false_iff.mpr h2]; rfl
              refine ⟨e5, ?_⟩
              rw [List.range_succ, filt_snoc, hw]
              simpa using hW
        obtain ⟨e5, hW⟩ := h
        refine ⟨Nat.zero_le _, fun E1 nE1 => ?_⟩
        have e6 : Ext S.T H (upd H5 E1 (.lst [])) := e5.trans (Ext.new nE1)
        have hWE : W ≠ E1 := ne_of_none hW nE1
        refine ⟨.list ((KInts ((List.range js.length).filter fun k => !win js z k)).map dat), .list [], .lst (SqL.of (by rw [upd_ne hWE]; exact hW)) (dp_flats (kints_flat' _)), .lst (SqL.of upd_same) .nil, shaped_dats (kints_flat' _), shaped_dats (xs := []) (fun _ h => nomatch h), _, rfl, ?_⟩
        rw [eqv_nil, map_empty, show (KInts ((List.range js.length).filter fun k => !win js z k)).isEmpty = ((List.range js.length).filter fun k => !win js z k).isEmpty from map_empty _ _, filt_empty]
        refine ite2 (fun ew => ?_) (fun ew => ?_)
        · have ef : ((List.range js.length).all (win js z) && apart (srtP (prs js z))) = false := by
            rw [Bool.and_eq_false_iff]
            left
            simpa using ew
          have := q _ e6
          rw [ef] at this
          exact this
        have hall : (List.range js.length).all (win js z) = true := by
          cases h9 : (List.range js.length).all (win js z) with
          | true => rfl
          | false => rw [h9] at ew; exact absurd rfl ew
        rw [hall, Bool.true_and] at q
        -- some = sorted(..)
        refine ⟨_, rfl, a, _, rfl, .inr (SqT.of (e6.tup hA)), (js.length : Nat), by rw [hlm], by omega, by omega, fun G nG => ?_⟩
        refine lc_range (n := js.length) (fun i H5 => Ext S.T H H5 ∧ ∃ bs : List (Addr × Int × Int), H5 G = some (.lst (bs.map fun b => V.ref b.1)) ∧ bs.map Prod.snd = (List.range i).map (pairAt js z) ∧ ∀ b ∈ bs, H5 b.1 = some (.tup [.int b.2.1, .int b.2.2])) ⟨e6.trans (Ext.new nG), [], upd_same, rfl, fun _ h => nomatch h⟩ (fun i H5 hi h => ?_) (fun H5 h => ?_)
        · obtain ⟨e5, bs, hD, hbs, hbt⟩ := h
          have ez : (0 : Int) + (i : Nat) = (i : Nat) := Int.zero_add _
          rw [ez]
          obtain ⟨xs5, p, hA5, hat, hpj⟩ := (hJ.to e5).get hi
          refine ⟨rfl, _, rfl, _, rfl, b, _, _, _, rfl, rfl, SqT.of (e5.tup hB), atI_nat (hz i hi), _, rfl, _, rfl, b, _, _, _, rfl, rfl, SqT.of (e5.tup hB), atI_nat (hz i hi), _, rfl, _, rfl, a, _, _, _, rfl, rfl, SqT.of hA5, hat, p, _, _, _, rfl, rfl, SqT.of hpj, atI_nat (j := 1) rfl, _, _, rfl, rfl, small8 (by simp), fun t nt => ?_⟩
          have hDt : G ≠ t := ne_of_none hD nt
          have hlb : bs.length = i := by
            have := congrArg List.length hbs
            simpa using this
          refine ⟨bs.map (fun b => V.ref b.1), by rw [upd_ne hDt]; exact hD, small7 (by rw [List.length_map]; omega), (e5.trans (Ext.new nt)).put (e6.old _ nG), bs ++ [(t, pairAt js z i)], ?_, ?_, fun b' hb' => ?_⟩
          · rw [upd_same, List.map_append]; rfl
          · rw [List.map_append, hbs, List.range_succ, List.map_append]; rfl
          · rcases List.mem_append.mp hb' with hb' | hb'
            · have := hbt b' hb'
              rw [upd_ne (ne_of (this) hD (by intro z; cases z)), upd_ne (ne_of_none this nt)]
              exact this
            · have : b' = (t, pairAt js z i) := by simpa using hb'
              subst this
              rw [upd_ne (Ne.symm hDt), upd_same]
              rfl
        obtain ⟨e5, bs, hD, hbs, hbt⟩ := h
        refine ⟨_, G, bs, fun b => .ref b.1, fun b => .tuple [.int b.2.1, .int b.2.2], rfl, .inl (SqL.of hD), fun b hb => dp_ii (hbt b hb), al_ii, so_ii, fun _ _ => de_ii, fun p np => ?_⟩
        obtain ⟨ss, ess, pm, so⟩ := ms_ii bs (fun b => b.2.1) (fun b => b.2.2)
        rw [ess]
        have e7 : Ext S.T H (upd H5 p (.lst (ss.map fun b => V.ref b.1))) := e5.trans (Ext.new np)
        have hst : ∀ b ∈ ss, upd H5 p (.lst (ss.map fun b => V.ref b.1)) b.1 = some (.tup [.int b.2.1, .int b.2.2]) := fun b hb => by
          have h1 := hbt b (pm.mem_iff.mp hb)
          rw [upd_ne (ne_of_none h1 np)]
          exact h1
        have hsp : upd H5 p (.lst (ss.map fun b => V.ref b.1)) p = some (.lst (ss.map fun b => V.ref b.1)) := upd_same
        have esr : ss.map Prod.snd = srtP (prs js z) := by
          refine srtP_uniq ?_ (List.pairwise_map.mpr so)
          have := pm.map Prod.snd
          rw [hbs] at this
          exact this
        have hsl : ss.length = js.length := by
          have h1 := pm.length_eq
          have h2 := congrArg List.length hbs
          simp only [List.length_map, List.length_range] at h2
          omega
        have hn1 := hok.1
        rw [← esr] at q
        generalize upd H5 p (.lst (ss.map fun b => V.ref b.1)) = H8 at e7 hst hsp
        -- [..] == []
        refine ⟨_, rfl, p, _, rfl, .inl (SqL.of hsp), 1, (ss.length : Nat), by rw [List.length_map], ⟨by omega, by omega, by omega, by omega⟩, fun L nL => ?_⟩
        have en : (((ss.length : Nat) : Int) - 1).toNat = (ss.map Prod.snd).length - 1 := by rw [List.length_map]; omega
        rw [en]
        let ap : Nat → Bool := fun k => decide (((ss.map Prod.snd).getD k (0, 0)).2 ≤ ((ss.map Prod.snd).getD (k + 1) (0, 0)).1)
        refine lc_range (n := (ss.map Prod.snd).length - 1) (fun i H9 => Ext S.T H8 H9 ∧ H9 L = some (.lst (KInts (((List.range i).filter fun k => !ap k).map (· + 1))))) ⟨Ext.new nL, upd_same⟩ (fun i H9 hi h => ?_) (fun H9 h => ?_)
        · obtain ⟨e9, hL⟩ := h
          rw [List.length_map] at hi
          have ez : (1 : Int) + (i : Nat) = ((i + 1 : Nat) : Int) := by omega
          rw [ez]
          have i0 : i < ss.length := by omega
          have i1 : i + 1 < ss.length := by omega
          have e0 : ∀ {j : Nat} (h : j < ss.length), (ss.map Prod.snd).getD j (0, 0) = ss[j].2 := fun {j} h => by
            rw [List.getD_eq_getElem?_getD, List.getElem?_map, List.getElem?_eq_getElem h]
            rfl
          have e1 : ∀ {j : Nat} (h : j < ss.length), (ss.map fun b => V.ref b.1)[j]? = some (.ref ss[j].1) := fun {j} h => by
            rw [List.getElem?_map, List.getElem?_eq_getElem h]
            rfl
          refine ⟨rfl, _, rfl, _, rfl, p, _, _, _, rfl, rfl, SqL.of (e9.lst hsp), atI_nat (e1 i1), _, _, _, _, rfl, rfl, SqT.of (e9.tup (hst _ (List.getElem_mem i1))), atI_nat (j := 0) rfl, _, rfl, _, rfl, _, _, rfl, rfl, p, _, _, _, rfl, rfl, SqL.of (e9.lst hsp), (by rw [show (((i + 1 : Nat) : Int) - 1) = (i : Nat) by omega]; exact atI_nat (e1 i0)), _, _, _, _, rfl, rfl, SqT.of (e9.tup (hst _ (List.getElem_mem i0))), atI_nat (j := 1) rfl, _, _, rfl, rfl, _, rfl, ite2 (fun h1 => ?_) (fun h1 => ?_)⟩
          · have h1' := of_decide_eq_true h1
            have hap : ap i = false := by
              show decide (((ss.map Prod.snd).getD i (0, 0)).2 ≤ ((ss.map Prod.snd).getD (i + 1) (0, 0)).1) = false
              rw [e0 i0, e0 i1, decide_eq_false_iff_not]
              omega
            refine ⟨_, rfl, _, hL, small7 ?_, e9.put nL, ?_⟩
            · unfold KInts
              rw [List.length_map, List.length_map]
              have h2 := List.length_filter_le (fun k => !ap k) (List.range i)
              rw [List.length_range] at h2
              omega
            · rw [upd_same, List.range_succ, filt_snoc, hap]
              simp [KInts]
          · have h1' : ¬ _ := fun h => h1 (decide_eq_true h)
            have hap : ap i = true := by
              show decide (((ss.map Prod.snd).getD i (0, 0)).2 ≤ ((ss.map Prod.snd).getD (i + 1) (0, 0)).1) = true
              rw [e0 i0, e0 i1, decide_eq_true_eq]
              omega
            refine ⟨e9, ?_⟩
            rw [List.range_succ, filt_snoc, hap]
            simpa using hL
        · obtain ⟨e9, hL⟩ := h
          refine ⟨Nat.zero_le _, fun E2 nE2 => ?_⟩
          have hLE : L ≠ E2 := ne_of_none hL nE2
          refine ⟨.list ((KInts (((List.range ((ss.map Prod.snd).length - 1)).filter fun k => !ap k).map (· + 1))).map dat), .list [], .lst (SqL.of (by rw [upd_ne hLE]; exact hL)) (dp_flats (kints_flat' _)), .lst (SqL.of upd_same) .nil, shaped_dats (kints_flat' _), shaped_dats (xs := []) (fun _ h => nomatch h), ?_⟩
          rw [eqv_nil, map_empty]
          unfold KInts
          rw [map_empty, map_empty, filt_empty]
          exact q _ ((e7.trans e9).trans (Ext.new nE2))


/-! ### _law_alike: two truth values -/
theorem isi_bt {K : PySem.W.Frag} : PySem.W.kitOne K (.type "bool") (.type "tuple") = some false := kit_ty (by decide +kernel)
theorem isi_bl {K : PySem.W.Frag} : PySem.W.kitOne K (.type "bool") (.type "list") = some false := kit_ty (by decide +kernel)
theorem isi_bs {K : PySem.W.Frag} : PySem.W.kitOne K (.type "bool") (.type "str") = some false := kit_ty (by decide +kernel)
def spAlike : Sp := fun vs H Q _ => ∃ x y : Bool, vs = [.bl x, .bl y] ∧ ∀ H', (∀ b o, H b = some o → H' b = some o) → (∀ b, H' b = none → H b = none) → Q (.bl (x == y)) H'
theorem Fs.okAlike (S : Fs K mg base) {k : Nat} : FnOk P w K mg base CX0 (k + 1) S.alike.a S.alike.fd ["_law_found", "_law_due"] spAlike := by
  have g := S.g
  refine S.alike.F.ok scAlike (fun vs H Q E h => ?_) (fun cdv A outer s H vs Q E hr h => ?_)
  · obtain ⟨x, y, rfl, _⟩ := h; rfl
  · obtain ⟨x, y, rfl, q⟩ := h
    refine ⟨_,
(pss_cons (ps_if (pt_val (pe_callB call_isiT (by rfl) g.isi (by decide +kernel) (pa_cons (pv 1) (pa_cons (pe_tup (pa_cons (pe_bltn (v := .ty "tuple") (by rfl) g.tuple (by decide +kernel) rfl) (pa_cons (pe_bltn (v := .ty "list") (by rfl) g.list (by decide +kernel) rfl) pa_nil))) pa_nil)))) pss_never pss_nil)
      (pss_cons (ps_if (PW.pt (pw_or (pt_cmp (pc_isN (pv 1))) (pw_or1 (pt_val (pe_callB call_isi (by rfl) g.isi (by decide +kernel) (pa_cons (pv 1) (pa_cons (pe_bltn (v := .ty "str") (by rfl) g.str (by decide +kernel) rfl) pa_nil))))))) (pss_one (ps_ret ((pe_and (pe_cmpR op_eq (pv 0) (pv 1) (nomark _)) (pe_one (pe_cmpR op_eq (pe_callB call_isi (by rfl) g.isi (by decide +kernel) (pa_cons (pv 0) (pa_cons (pe_bltn (v := .ty "str") (by rfl) g.str (by decide +kernel) rfl) pa_nil))) (pe_callB call_isi (by rfl) g.isi (by decide +kernel) (pa_cons (pv 1) (pa_cons (pe_bltn (v := .ty "str") (by rfl) g.str (by decide +kernel) rfl) pa_nil))) (nomark _))))))) pss_nil)
      (pss_one (ps_ret ((pe_and (pe_callB call_isi (by rfl) g.isi (by decide +kernel) (pa_cons (pv 0) (pa_cons (pe_bltn (v := .ty "int") (by rfl) g.int (by decide +kernel) rfl) pa_nil))) (pe_and (pe_cmpR op_eq (pe_callB call_isi (by rfl) g.isi (by decide +kernel) (pa_cons (pv 0) (pa_cons (pe_bltn (v := .ty "bool") (by rfl) g.bool (by decide +kernel) rfl) pa_nil))) (pe_callB call_isi (by rfl) g.isi (by decide +kernel) (pa_cons (pv 1) (pa_cons (pe_bltn (v := .ty "bool") (by rfl) g.bool (by decide +kernel) rfl) pa_nil))) (nomark _)) (pe_one (pe_cmpR op_eq (pv 0) (pv 1) (nomark _))))))))))
      , ?_⟩
    refine ⟨_, rfl, small8 (by decide), fun tp ntp => ⟨_, tp, _, _, [.type "tuple", .type "list"], false, rfl, upd_same, .cons (.ty _) (.cons (.ty _) .nil), .base (.bl y), kitAny_cons isi_bt (fun _ => kitAny_cons isi_bl (fun _ => kitAny_nil) nofun) nofun, false, rfl, iteF ?_⟩⟩
    refine ⟨_, rfl, false, rfl, iteF ⟨_, rfl, _, _, _, _, false, rfl, .ty _, .base (.bl y), isi_bs, false, rfl, iteF ?_⟩⟩
    refine ⟨_, rfl, _, _, _, _, true, rfl, .ty _, .base (.bl x), isi_bi, true, rfl, iteT ?_⟩
    refine ⟨_, rfl, _, _, _, _, true, rfl, .ty _, .base (.bl x), isi_bb, _, rfl, _, _, _, _, true, rfl, .ty _, .base (.bl y), isi_bb, rfl, true, rfl, iteT ?_⟩
    refine ⟨_, rfl, _, rfl, rfl, ?_⟩
    have e : decide (V.bl x = V.bl y) = (x == y) := by cases x <;> cases y <;> rfl
    rw [e]
    exact q _ (fun b o h => by rw [upd_ne (ne_of_none h ntp)]; exact h) (fun b h => (none_upd h).1)
end
end K23
/-! The script is read: _law_taken, _law_pick, _law_jobs. -/
namespace K23
open PySem PySem.Spec PyProof.Rows L2

/-- as Ext, but the row at r may have been written -/
structure ExtR (T : List Addr) (r : Addr) (H H' : Hp) : Prop where
  keep : ∀ b o, b ≠ r → H b = some o → (∀ ps, o ≠ .tbl ps) → H' b = some o
  tabs : Tb T H → Tb T H'
  old : ∀ b, H' b = none → H b = none
section
variable {T : List Addr} {r : Addr} {H H1 H2 : Hp} {K : PySem.W.Frag}
theorem Ext.toR (e : Ext T H H1) : ExtR T r H H1 := ⟨fun b o _ h n => e.keep b o h n, e.tabs, e.old⟩
theorem ExtR.refl (T : List Addr) (r : Addr) (H : Hp) : ExtR T r H H := (Ext.refl T H).toR
theorem ExtR.trans (a : ExtR T r H H1) (b : ExtR T r H1 H2) : ExtR T r H H2 := ⟨fun c o hc e n => b.keep c o hc (a.keep c o hc e n) n, fun h => b.tabs (a.tabs h), fun c h => a.old c (b.old c h)⟩
theorem ExtR.row {xs : List V} {o : HO} (h : H r = some (.lst xs)) : ExtR T r H (upd H r o) := by
  refine ⟨fun b u hb e _ => by rw [upd_ne hb]; exact e, fun tb P hP => ?_, fun b e => ?_⟩
  · obtain ⟨ps, q, t⟩ := tb P hP
    exact ⟨ps, by rw [upd_ne (ne_of q h (by intro z; cases z))]; exact q, t⟩
  · by_cases hb : b = r
    · rw [hb, upd_same] at e; cases e
    · rw [upd_ne hb] at e; exact e
theorem ExtR.put {p : Addr} {o : HO} (e : ExtR T r H H1) (h : H p = none) : ExtR T r H (upd H1 p o) := by
  refine ⟨fun b x hb q n => ?_, fun tb P hP => ?_, fun b q => ?_⟩
  · have hb : b ≠ p := ne_of_none q h
    rw [upd_ne hb]
    exact e.keep b x ‹_› q n
  · obtain ⟨ps, q, _⟩ := tb P hP
    have hb : P ≠ p := ne_of_none q h
    obtain ⟨ps', q', t'⟩ := e.tabs tb P hP
    exact ⟨ps', by rw [upd_ne hb]; exact q', t'⟩
  · by_cases hb : b = p
    · rw [hb]; exact h
    · rw [upd_ne hb] at q; exact e.old b q
theorem ExtR.tup (e : ExtR T r H H1) {p : Addr} {xs ys : List V} (hr : H r = some (.lst ys)) (h : H p = some (.tup xs)) : H1 p = some (.tup xs) := e.keep _ _ (ne_of h hr (by intro z; cases z)) h fun _ z => nomatch z
/-- the row: the script, how many of it are read, two numbers -/
def RowAt (K : PySem.W.Frag) (H : Hp) (r sc : Addr) (xs : List Int) : Prop := ∃ p q z : Int, 0 ≤ p ∧ 0 ≤ q ∧ q < 2147483647 ∧ 0 ≤ z ∧ H r = some (.lst [.ref sc, .int p, .int q, .int z]) ∧ SqL K H sc (xs.map V.int)
theorem sq_put {sc b : Addr} {xs : List Int} {t : List V} {o : HO} (h : SqL K H sc (xs.map V.int)) (hr : H r = some (.lst (.ref b :: t))) : SqL K (upd H r o) sc (xs.map V.int) := by
  rcases h with (h | ⟨u, h⟩) | h
  · refine .inl (.inl ?_)
    rw [upd_ne (ne_of h hr (by
      intro z
      injection z with z
      cases xs with
      | nil => cases z
      | cons x xs => injection z with z _; cases z))]
    exact h
  · refine .inl (.inr ⟨u, ?_⟩)
    rw [upd_ne (ne_of h hr (by intro z; cases z))]
    exact h
  · exact .inr h
theorem sq_new {f sc : Addr} {ys : List V} {o : HO} (h0 : SqL K H sc ys) (nf : H f = none) (h : SqL K H1 sc ys) : SqL K (upd H1 f o) sc ys := by
  rcases h0 with (h0 | ⟨u, h0⟩) | h0
  · have hn := ne_of_none h0 nf
    rcases h with (h | ⟨u, h⟩) | h
    · exact .inl (.inl (by rw [upd_ne hn]; exact h))
    · exact .inl (.inr ⟨u, by rw [upd_ne hn]; exact h⟩)
    · exact .inr h
  · have hn := ne_of_none h0 nf
    rcases h with (h | ⟨u, h⟩) | h
    · exact .inl (.inl (by rw [upd_ne hn]; exact h))
    · exact .inl (.inr ⟨u, by rw [upd_ne hn]; exact h⟩)
    · exact .inr h
  · exact .inr h0
theorem RowAt.ext {sc : Addr} {xs : List Int} (h : RowAt K H r sc xs) (e : Ext T H H1) : RowAt K H1 r sc xs := by
  obtain ⟨p, q, z, a, b, b', c, d, f⟩ := h
  exact ⟨p, q, z, a, b, b', c, e.lst d, e.sqL f⟩
end
section
variable {P : Program} {w : World} {K : PySem.W.Frag} {mg : Str → Option Value} {base : Heap}
def spTaken (K : PySem.W.Frag) (T : List Addr) : Sp := fun vs H Q _ => ∃ (r sc : Addr) (xs : List Int) (m : Int), vs = [.ref r, .int m] ∧ RowAt K H r sc xs ∧ 0 < m ∧ m < 1073741824 ∧ ∀ H' z, RowAt K H' r sc xs → ExtR T r H H' → 0 ≤ z → z < m → Q (.int z) H'
theorem Fs.okTaken (S : Fs K mg base) {k : Nat} : FnOk P w K mg base CX0 (k + 1) S.taken.a S.taken.fd ["_law_row", "_law_many"] (spTaken K S.T) := by
  have g := S.g
  refine S.taken.F.ok scTaken (fun vs H Q E h => ?_) (fun cdv A outer s H vs Q E hr h => ?_)
  · obtain ⟨r, sc, xs, m, rfl, _⟩ := h; rfl
  · obtain ⟨r, sc, xs, m, rfl, ⟨p, q, z, hp, hq, hq2, hz, hR, hS⟩, hm, hm2, Qf⟩ := h
    refine ⟨_,
(pss_cons (ps_if (pt_cmpR op_gt (pe_ix ix_list (pv 0) pe_int (fun _ _ => rfl)) pe_int (nomark _)) (pss_cons (ps_set (i := 2) scTaken.nd rfl (Or.inl rfl) (pe_op op_mod (pe_callTy call_int1 (by rfl) g.int (by decide +kernel) (pa_cons (pe_ix ix_list (pv 0) pe_int (fun _ _ => rfl)) pa_nil)) (pv 1)))
      (pss_cons (ps_asg (pe_op op_fdiv (pe_ix ix_list (pv 0) pe_int (fun _ _ => rfl)) (pv 1)) (pg_sub (pv 0) pe_int set_list))
      (pss_one (ps_ret (pv 2))))) pss_nil)
      (pss_cons (ps_asg (pe_op op_add (pe_ix ix_list (pv 0) pe_int (fun _ _ => rfl)) pe_int) (pg_sub (pv 0) pe_int set_list))
      (pss_cons (ps_if (pt_cmpR op_gt (pe_ix ix_list (pv 0) pe_int (fun _ _ => rfl)) (pe_callB call_len_seq (by rfl) g.len (by decide +kernel) (pa_cons (pe_ix ix_list (pv 0) pe_int (fun _ _ => rfl)) pa_nil)) (nomark _)) (pss_cons (ps_asg (pe_op op_mod (pe_callTy call_int1 (by rfl) g.int (by decide +kernel) (pa_cons (pe_op op_add (pe_op op_mul (pe_ix ix_list (pv 0) pe_int (fun _ _ => rfl)) pe_int) pe_int) pa_nil)) pe_int) (pg_sub (pv 0) pe_int set_list))
      (pss_one (ps_ret (pe_op op_mod (pe_callTy call_int1 (by rfl) g.int (by decide +kernel) (pa_cons (pe_op op_fdiv (pe_ix ix_list (pv 0) pe_int (fun _ _ => rfl)) pe_int) pa_nil)) (pv 1))))) pss_nil)
      (pss_cons (ps_set (i := 3) scTaken.nd rfl (Or.inl rfl) (pe_ix ix_list (pe_ix ix_list (pv 0) pe_int (fun _ _ => rfl)) (pe_op op_sub (pe_ix ix_list (pv 0) pe_int (fun _ _ => rfl)) pe_int) (fun _ _ => rfl)))
      (pss_cons (ps_asg (pe_op op_mod (pe_callTy call_int1 (by rfl) g.int (by decide +kernel) (pa_cons (pe_op op_add (pe_op op_add (pe_op op_mul (pe_ix ix_list (pv 0) pe_int (fun _ _ => rfl)) pe_int) (pv 3)) pe_int) pa_nil)) pe_int) (pg_sub (pv 0) pe_int set_list))
      (pss_cons (ps_if (pt_cmpR op_ge (pv 3) (pe_op op_pow pe_int pe_int) (nomark _)) (pss_one (ps_asg (pe_op op_fdiv (pv 3) (pv 1)) (pg_sub (pv 0) pe_int set_list))) pss_nil)
      (pss_one (ps_ret (pe_op op_mod (pe_callTy call_int1 (by rfl) g.int (by decide +kernel) (pa_cons (pv 3) pa_nil)) (pv 1))))))))))
      , ?_⟩
    have mod : ∀ x : Int, 0 ≤ x % m ∧ x % m < m := fun x => ⟨Int.emod_nonneg x (by omega), Int.emod_lt_of_pos x hm⟩
    refine ⟨_, rfl, r, _, _, _, rfl, rfl, SqL.of hR, atI_nat (j := 3) rfl, _, _, rfl, rfl, _, rfl, ite2 (fun h1 => ?_) (fun h1 => ?_)⟩
    · -- found = int(row[3]) % many
      refine ⟨_, rfl, r, _, _, _, rfl, rfl, SqL.of hR, atI_nat (j := 3) rfl, .inl ⟨_, rfl, _, rfl, _, _, rfl, rfl, hm, ?_⟩⟩
      refine ⟨_, rfl, r, _, _, _, rfl, rfl, SqL.of hR, atI_nat (j := 3) rfl, _, rfl, _, _, rfl, rfl, ⟨hm, hm2⟩, ?_⟩
      refine ⟨_, rfl, r, _, _, 3, rfl, rfl, hR, rfl, ?_⟩
      refine ⟨_, rfl, Qf _ _ ⟨p, q, z / m, hp, hq, hq2, Int.ediv_nonneg hz (by omega), upd_same, sq_put hS hR⟩ (ExtR.row hR) (mod z).1 (mod z).2⟩
    · -- row[1] = row[1] + 1
      refine ⟨_, rfl, r, _, _, _, rfl, rfl, SqL.of hR, atI_nat (j := 1) rfl, _, _, rfl, rfl, ?_⟩
      refine ⟨_, rfl, r, _, _, 1, rfl, rfl, hR, rfl, ?_⟩
      have e1 : ExtR S.T r H (upd H r (.lst [.ref sc, .int (p + 1), .int q, .int z])) := ExtR.row hR
      have hS1 : SqL K (upd H r (.lst [.ref sc, .int (p + 1), .int q, .int z])) sc (xs.map V.int) := sq_put hS hR
      have hR1 : upd H r (.lst [.ref sc, .int (p + 1), .int q, .int z]) r = some (.lst [.ref sc, .int (p + 1), .int q, .int z]) := upd_same
      refine ⟨_, rfl, r, _, _, _, rfl, rfl, SqL.of hR1, atI_nat (j := 1) rfl, _, rfl, r, _, _, _, rfl, rfl, SqL.of hR1, atI_nat (j := 0) rfl, sc, _, rfl, .inl hS1, _, _, rfl, rfl, _, rfl, ite2 (fun h2 => ?_) (fun h2 => ?_)⟩
      · refine ⟨_, rfl, r, _, _, _, rfl, rfl, SqL.of hR1, atI_nat (j := 2) rfl, _, _, rfl, rfl, .inl ⟨by omega, by omega⟩, _, _, rfl, rfl, .inl ⟨_, rfl, _, _, rfl, rfl, (show (0 : Int) < 2147483647 by decide), ?_⟩⟩
        have md := fun x : Int => And.intro (Int.emod_nonneg x (show (2147483647 : Int) ≠ 0 by decide)) (Int.emod_lt_of_pos x (show (0 : Int) < 2147483647 by decide))
        refine ⟨_, rfl, r, _, _, 2, rfl, rfl, hR1, rfl, ?_⟩
        refine ⟨_, rfl, r, _, _, _, rfl, rfl, SqL.of upd_same, atI_nat (j := 2) rfl, _, _, rfl, rfl, ⟨by decide, by decide⟩, .inl ⟨_, rfl, _, rfl, _, _, rfl, rfl, hm, ?_⟩⟩
        exact Qf _ _ ⟨p + 1, _, z, by omega, (md _).1, (md _).2, hz, upd_same, sq_put hS1 hR1⟩ (e1.trans (ExtR.row hR1)) (mod _).1 (mod _).2
      · obtain ⟨n, rfl⟩ := Int.eq_ofNat_of_zero_le hp
        have h2' : ¬ _ := fun h => h2 (decide_eq_true h)
        rw [List.length_map] at h2'
        have hn : n < xs.length := by omega
        have hat : atI (xs.map V.int) ((n : Int) + 1 - 1) = some (.int xs[n]) := by
          rw [show (n : Int) + 1 - 1 = (n : Nat) by omega]
          exact atI_nat (by rw [List.getElem?_map, List.getElem?_eq_getElem hn]; rfl)
        refine ⟨_, rfl, r, _, _, _, rfl, rfl, SqL.of hR1, atI_nat (j := 0) rfl, _, rfl, r, _, _, _, rfl, rfl, SqL.of hR1, atI_nat (j := 1) rfl, _, _, rfl, rfl, sc, _, _, _, rfl, rfl, hS1, hat, ?_⟩
        generalize xs[n] = c
        refine ⟨_, rfl, r, _, _, _, rfl, rfl, SqL.of hR1, atI_nat (j := 2) rfl, _, _, rfl, rfl, .inl ⟨by omega, by omega⟩, _, rfl, _, _, rfl, rfl, _, _, rfl, rfl, .inl ⟨_, rfl, _, _, rfl, rfl, (show (0 : Int) < 2147483647 by decide), ?_⟩⟩
        have md := fun x : Int => And.intro (Int.emod_nonneg x (show (2147483647 : Int) ≠ 0 by decide)) (Int.emod_lt_of_pos x (show (0 : Int) < 2147483647 by decide))
        refine ⟨_, rfl, r, _, _, 2, rfl, rfl, hR1, rfl, ?_⟩
        have e2 := e1.trans (ExtR.row (T := S.T) (o := .lst [.ref sc, .int ((n : Int) + 1), .int ((q * 48271 + c + 11) % 2147483647), .int z]) hR1)
        have hR2 : upd (upd H r (.lst [.ref sc, .int ((n : Int) + 1), .int q, .int z])) r (.lst [.ref sc, .int ((n : Int) + 1), .int ((q * 48271 + c + 11) % 2147483647), .int z]) r = some (.lst [.ref sc, .int ((n : Int) + 1), .int ((q * 48271 + c + 11) % 2147483647), .int z]) := upd_same
        have hS2 := sq_put (o := .lst [.ref sc, .int ((n : Int) + 1), .int ((q * 48271 + c + 11) % 2147483647), .int z]) hS1 hR1
        refine ⟨_, rfl, _, _, rfl, rfl, ⟨by decide, by decide, by decide⟩, _, _, rfl, rfl, _, rfl, ite2 (fun h3 => ?_) (fun h3 => ?_)⟩
        · have h3' := of_decide_eq_true h3
          have hc : 0 ≤ c := Int.le_trans (by decide) h3'
          refine ⟨_, rfl, _, rfl, _, _, rfl, rfl, ⟨hm, hm2⟩, _, rfl, r, _, _, 3, rfl, rfl, hR2, rfl, ?_⟩
          refine ⟨_, rfl, .inl ⟨_, rfl, _, rfl, _, _, rfl, rfl, hm, ?_⟩⟩
          exact Qf _ _ ⟨(n : Int) + 1, _, c / m, by omega, (md _).1, (md _).2, Int.ediv_nonneg hc (by omega), upd_same, sq_put hS2 hR2⟩ (e2.trans (ExtR.row hR2)) (mod _).1 (mod _).2
        · refine ⟨_, rfl, .inl ⟨_, rfl, _, rfl, _, _, rfl, rfl, hm, ?_⟩⟩
          exact Qf _ _ ⟨(n : Int) + 1, _, z, by omega, (md _).1, (md _).2, hz, hR2, hS2⟩ e2 (mod _).1 (mod _).2

/-! ### _law_pick -/
def spPick (K : PySem.W.Frag) (T : List Addr) : Sp := fun vs H Q _ => ∃ (r sc t : Addr) (xs zs : List Int), vs = [.ref r, .ref t] ∧ RowAt K H r sc xs ∧ H t = some (.lst (zs.map V.int)) ∧ zs ≠ [] ∧ zs.length ≤ 100 ∧ ∀ H' z, RowAt K H' r sc xs → ExtR T r H H' → z ∈ zs → Q (.int z) H'
theorem Fs.okPick (S : Fs K mg base) {k : Nat} : FnOk P w K mg base CX0 (k + 2) S.pick.a S.pick.fd ["_law_row", "_law_things"] (spPick K S.T) := by
  have g := S.g
  have GT : FnOk P w K mg base CX0 (k + 1) S.taken.a S.taken.fd ["_law_row", "_law_many"] (spTaken K S.T) := S.okTaken
  refine S.pick.F.ok scPick (fun vs H Q E h => ?_) (fun cdv A outer s H vs Q E hr h => ?_)
  · obtain ⟨r, sc, t, xs, zs, rfl, _⟩ := h; rfl
  · obtain ⟨r, sc, t, xs, zs, rfl, hR, hT, hne, hl, Qf⟩ := h
    refine ⟨_,
(pss_one (ps_ret (pe_ix ix_list (pv 1) (pe_call GT hr (by rfl) S.taken.g S.taken.F.kp S.taken.b .nil pass0 (pa_cons (pv 0) (pa_cons (pe_callB call_len_seq (by rfl) g.len (by decide +kernel) (pa_cons (pv 1) pa_nil)) pa_nil))) (fun _ _ => rfl))))
      , ?_⟩
    have hp : 0 < zs.length := List.length_pos_iff.mpr hne
    have htr : t ≠ r := by
      obtain ⟨p, q, z, _, _, _, _, d, _⟩ := hR
      refine ne_of hT d ?_
      intro e
      injection e with e
      cases zs with
      | nil => cases e
      | cons x zs => injection e with e _; cases e
    refine ⟨_, rfl, _, rfl, _, rfl, t, _, rfl, .inl (SqL.of hT), r, sc, xs, (zs.length : Nat), by rw [List.length_map]; rfl, hR, by omega, by omega, fun H' z hR' e h0 h1 => ?_⟩
    obtain ⟨n, rfl⟩ := Int.eq_ofNat_of_zero_le h0
    have hn : n < zs.length := by omega
    exact ⟨t, _, _, _, rfl, rfl, SqL.of (e.keep _ _ htr hT (fun _ z => nomatch z)), atI_nat (by rw [List.getElem?_map, List.getElem?_eq_getElem hn]; rfl), Qf _ _ hR' e (List.getElem_mem hn)⟩

/-! ### _law_jobs -/
def spJobs (K : PySem.W.Frag) (T : List Addr) : Sp := fun vs H Q _ => ∃ (r sc : Addr) (xs : List Int), vs = [.ref r] ∧ RowAt K H r sc xs ∧ ∀ H' a js, RowAt K H' r sc xs → ExtR T r H H' → JobsAt H' a js → JobsOk js → Q (.ref a) H'
theorem Fs.okJobs (S : Fs K mg base) {k : Nat} : FnOk P w K mg base CX0 (k + 3) S.jobs.a S.jobs.fd ["_law_row"] (spJobs K S.T) := by
  have g := S.g
  have GT : FnOk P w K mg base CX0 (k + 2) S.taken.a S.taken.fd ["_law_row", "_law_many"] (spTaken K S.T) := S.okTaken
  have GP : FnOk P w K mg base CX0 (k + 2) S.pick.a S.pick.fd ["_law_row", "_law_things"] (spPick K S.T) := S.okPick
  refine S.jobs.F.ok scJobs (fun vs H Q E h => ?_) (fun cdv A outer s H vs Q E hr h => ?_)
  · obtain ⟨r, sc, xs, rfl, _⟩ := h; rfl
  · obtain ⟨r, sc, xs, rfl, hR, Qf⟩ := h
    refine ⟨_,
(pss_cons (ps_par (i := 1) (j := 2) (by rfl) scJobs.nd rfl rfl (by decide) rfl rfl (pa_cons (pe_lst pa_nil) (pa_cons (pe_call GT hr (by rfl) S.taken.g S.taken.F.kp S.taken.b .nil pass0 (pa_cons (pv 0) (pa_cons pe_int pa_nil))) pa_nil)) (by rfl))
      (pss_cons (ps_for PassesOwn.never rfl (pi_range1 (by rfl) g.range (pa_cons (pe_op op_add pe_int (pe_call GT hr (by rfl) S.taken.g S.taken.F.kp S.taken.b .nil pass0 (pa_cons (pv 0) (pa_cons pe_int pa_nil)))) pa_nil)) (pg_name (i := 3) scJobs.nd rfl (Or.inl rfl))
      (pss_cons (ps_set (i := 4) scJobs.nd rfl (Or.inl rfl) (pe_op op_add pe_int (pe_call GT hr (by rfl) S.taken.g S.taken.F.kp S.taken.b .nil pass0 (pa_cons (pv 0) (pa_cons (pe_call GP hr (by rfl) S.pick.g S.pick.F.kp S.pick.b .nil pass0 (pa_cons (pv 0) (pa_cons (pe_lst (pa_cons pe_int (pa_cons pe_int (pa_cons pe_int (pa_cons pe_int pa_nil))))) pa_nil))) pa_nil)))))
      (pss_cons (ps_set (i := 5) scJobs.nd rfl (Or.inl rfl) (pe_call GT hr (by rfl) S.taken.g S.taken.F.kp S.taken.b .nil pass0 (pa_cons (pv 0) (pa_cons pe_int pa_nil))))
      (pss_cons (ps_set (i := 6) scJobs.nd rfl (Or.inl rfl) (pe_call GP hr (by rfl) S.pick.g S.pick.F.kp S.pick.b .nil pass0 (pa_cons (pv 0) (pa_cons (pe_lst (pa_cons pe_int (pa_cons pe_int (pa_cons pe_int (pa_cons pe_int (pa_cons pe_int (pa_cons pe_int pa_nil))))))) pa_nil))))
      (C8.pss_cut (ps_if (PW.pt (pw_and (pt_cmpR op_eq (pv 2) pe_int (nomark _)) (pw_and1 (pt_cmpR op_eq (pv 3) pe_int (nomark _))))) (pss_one (ps_par3 (i := 5) (j := 4) (l := 6) (by rfl) scJobs.nd rfl rfl rfl (by decide) (by decide) (by decide) rfl rfl rfl (pa_cons pe_int (pa_cons (pe_op op_add pe_int (pe_call GT hr (by rfl) S.taken.g S.taken.F.kp S.taken.b .nil pass0 (pa_cons (pv 0) (pa_cons pe_int pa_nil)))) (pa_cons pe_int pa_nil))) (by rfl))) pss_nil)
      (C8.pss_cut (ps_if (PW.pt (pw_and (pt_cmpR op_eq (pv 2) pe_int (nomark _)) (pw_and1 (pt_cmpR op_eq (pv 3) pe_int (nomark _))))) (pss_one (ps_par3 (i := 5) (j := 4) (l := 6) (by rfl) scJobs.nd rfl rfl rfl (by decide) (by decide) (by decide) rfl rfl rfl (pa_cons (pe_op op_add pe_int (pe_call GT hr (by rfl) S.taken.g S.taken.F.kp S.taken.b .nil pass0 (pa_cons (pv 0) (pa_cons pe_int pa_nil)))) (pa_cons (pe_op op_add pe_int (pe_call GT hr (by rfl) S.taken.g S.taken.F.kp S.taken.b .nil pass0 (pa_cons (pv 0) (pa_cons pe_int pa_nil)))) (pa_cons (pe_call GT hr (by rfl) S.taken.g S.taken.F.kp S.taken.b .nil pass0 (pa_cons (pv 0) (pa_cons pe_int pa_nil))) pa_nil))) (by rfl))) pss_nil)
      (pss_one (ps_expr (pe_bm PySem.F.plainAttrs_list PySem.F.slot_list_append PySem.F.type_list_append mt_append (pv 1) (pa_cons (pe_tup (pa_cons (pv 5) (pa_cons (pv 4) (pa_cons (pe_callB (call_min2 rfl) (by rfl) g.min (by decide +kernel) (pa_cons pe_int (pa_cons (pe_op op_add (pe_op op_add (pv 5) (pv 4)) (pv 6)) pa_nil))) pa_nil)))) pa_nil))))))))))
      (pss_one (ps_ret (pe_callTy call_tuple_of (by rfl) g.tuple (by decide +kernel) (pa_cons (pv 1) pa_nil))))))
      , ?_⟩
    refine ⟨Nat.zero_le _, fun f nf => ⟨_, rfl, r, sc, xs, 3, rfl, hR.ext (T := S.T) (Ext.new nf), by omega, by omega, fun H1 way hR1 e1 hw0 hw1 => ⟨_, _, rfl, ?_⟩⟩⟩
    have hfr : f ≠ r := by
      obtain ⟨_, _, _, _, _, _, _, d, _⟩ := hR
      exact Ne.symm (ne_of_none d nf)
    have x1 : ExtR S.T r H H1 := (Ext.toR (Ext.new nf)).trans e1
    have hf1 : H1 f = some (.lst []) := e1.keep f _ hfr upd_same fun _ z => nomatch z
    refine ⟨_, rfl, r, sc, xs, 7, rfl, hR1, by omega, by omega, fun H2 n hR2 e2 hn0 hn1 => ⟨_, _, rfl, rfl, _, rfl, by omega, by omega, ?_⟩⟩
    have hf2 := e2.keep f _ hfr hf1 fun _ z => nomatch z
    refine for_range (n := (1 + n).toNat) (fun i σ H3 => ∃ y3 y4 y5 y6, σ = [some (.ref r), some (.ref f), some (.int way), y3, y4, y5, y6] ∧ RowAt K H3 r sc xs ∧ ExtR S.T r H H3 ∧ ∃ (as : List Addr) (js : List Job), H3 f = some (.lst (as.map V.ref)) ∧ Paired (fun p (j : Job) => H3 p = some (.tup (jobV j))) as js ∧ js.length = i ∧ ∀ j ∈ js, LongOk j)
      ⟨none, none, none, none, rfl, hR2, x1.trans e2, [], [], hf2, .nil, rfl, fun _ h => nomatch h⟩ (fun i σ H3 hi h => ?_) (fun σ H3 h => ?_)
    · obtain ⟨y3, y4, y5, y6, rfl, hR3, x3, as, js, hf3, hp3, hlen, hlong⟩ := h
      refine ⟨_, rfl, _, rfl, small8 (by decide), fun t nt => ⟨r, sc, t, xs, [2, 4, 8, 20], rfl, hR3.ext (T := S.T) (Ext.new nt), upd_same, by decide, by decide, fun H4 m hR4 e4 hm => ?_⟩⟩
      have hm' : 1 ≤ m ∧ m ≤ 20 := by
        simp only [List.mem_cons, List.not_mem_nil, or_false] at hm
        omega
      have x4 : ExtR S.T r H3 H4 := (Ext.toR (Ext.new nt)).trans e4
      refine ⟨r, sc, xs, m, rfl, hR4, by omega, by omega, fun H5 z hR5 e5 z0 z1 => ⟨_, _, rfl, rfl, ?_⟩⟩
      refine ⟨_, rfl, r, sc, xs, 9, rfl, hR5, by omega, by omega, fun H6 ar hR6 e6 a0 a1 => ?_⟩
      refine ⟨_, rfl, small8 (by decide), fun u nu => ⟨r, sc, u, xs, [0, 1, 2, 4, 8, 20], rfl, hR6.ext (T := S.T) (Ext.new nu), upd_same, by decide, by decide, fun H7 sl hR7 e7 hsl => ?_⟩⟩
      have hsl' : 0 ≤ sl ∧ sl ≤ 20 := by
        simp only [List.mem_cons, List.not_mem_nil, or_false] at hsl
        omega
      have x7 : ExtR S.T r H3 H7 := ((x4.trans e5).trans e6).trans ((Ext.toR (Ext.new nu)).trans e7)
      let Md : L2.St → Hp → Prop := fun σ H8 => ∃ ln ar sl : Int, σ = [some (.ref r), some (.ref f), some (.int way), some (.int (0 + (i : Nat))), some (.int ln), some (.int ar), some (.int sl)] ∧ 1 ≤ ln ∧ ln ≤ 20 ∧ 0 ≤ ar ∧ ar ≤ 8 ∧ 0 ≤ sl ∧ sl ≤ 20 ∧ RowAt K H8 r sc xs ∧ ExtR S.T r H3 H8
      refine ⟨Md, ?_, fun σ8 H8 h8 => ⟨Md, ?_, fun σ9 H9 h9 => ?_⟩⟩
      · refine ⟨_, rfl, rfl, _, rfl, ite2 (fun c1 => ?_) (fun c1 => ?_)⟩
        · refine ⟨_, rfl, rfl, _, rfl, ite2 (fun c2 => ?_) (fun c2 => ?_)⟩
          · refine ⟨_, rfl, r, sc, xs, 6, rfl, hR7, by omega, by omega, fun H8 z2 hR8 e8 b0 b1 => ⟨_, _, rfl, rfl, _, _, _, rfl, ?_⟩⟩
            exact ⟨4 + z2, 0, 12, rfl, by omega, by omega, by omega, by omega, by omega, by omega, hR8, x7.trans e8⟩
          · exact ⟨1 + z, ar, sl, rfl, by omega, by omega, by omega, by omega, by omega, by omega, hR7, x7⟩
        · exact ⟨1 + z, ar, sl, rfl, by omega, by omega, by omega, by omega, by omega, by omega, hR7, x7⟩
      · obtain ⟨ln, ar, sl, rfl, l0, l1, a0, a1, s0, s1, hR8, x8⟩ := h8
        refine ⟨_, rfl, rfl, _, rfl, ite2 (fun c1 => ?_) (fun c1 => ?_)⟩
        · refine ⟨_, rfl, rfl, _, rfl, ite2 (fun c2 => ?_) (fun c2 => ?_)⟩
          · refine ⟨_, rfl, r, sc, xs, 3, rfl, hR8, by omega, by omega, fun H9 z2 hR9 e9 b0 b1 => ⟨_, _, rfl, rfl, _, rfl, r, sc, xs, 2, rfl, hR9, by omega, by omega, fun H10 z3 hR10 e10 b2 b3 => ⟨_, _, rfl, rfl, _, rfl, r, sc, xs, 2, rfl, hR10, by omega, by omega, fun H11 z4 hR11 e11 b4 b5 => ⟨_, _, _, rfl, ?_⟩⟩⟩⟩
            exact ⟨1 + z3, 1 + z2, z4, rfl, by omega, by omega, by omega, by omega, by omega, by omega, hR11, ((x8.trans e9).trans e10).trans e11⟩
          · exact ⟨ln, ar, sl, rfl, l0, l1, a0, a1, s0, s1, hR8, x8⟩
        · exact ⟨ln, ar, sl, rfl, l0, l1, a0, a1, s0, s1, hR8, x8⟩
      · obtain ⟨ln, ar, sl, rfl, l0, l1, a0, a1, s0, s1, hR9, x9⟩ := h9
        have hf9 := x9.keep f _ hfr hf3 fun _ z => nomatch z
        refine ⟨_, rfl, .inl ⟨rfl, _, SqL.of hf9⟩, _, rfl, _, rfl, _, rfl, _, rfl, _, _, rfl, rfl, _, rfl, _, _, rfl, rfl, _, _, rfl, small8 (by simp), fun t nt => ?_⟩
        have x10 : ExtR S.T r H H9 := x3.trans x9
        have ht0 : H t = none := x10.old t nt
        have hrl : ∃ zs, H3 r = some (.lst zs) := by
          obtain ⟨_, _, _, _, _, _, _, d, _⟩ := hR3
          exact ⟨_, d⟩
        obtain ⟨zs, hrl⟩ := hrl
        have hft : f ≠ t := ne_of_none hf9 nt
        have hlj : as.length = i := by rw [hp3.length, hlen]
        have hi7 : i < 8 := by omega
        have e11 : Ext S.T H9 (upd H9 t (.tup (jobV (ar, ln, if ar + ln + sl < 100 then ar + ln + sl else 100)))) := Ext.new nt
        have hf11 := e11.lst hf9
        refine ⟨f, _, _, rfl, rfl, hf11, by rw [List.length_map, sizeLine_eq]; omega, _, _, _, _, rfl, ?_, (x10.put ht0).put nf, as ++ [t], js ++ [(ar, ln, if ar + ln + sl < 100 then ar + ln + sl else 100)], ?_, paired_snoc (paired_to (fun p j q => ?_) hp3) ?_, by rw [List.length_append, hlen]; rfl, fun j hj => ?_⟩
        · obtain ⟨p, q, z, b1, b2, b3, b4, d, e⟩ := hR9.ext e11
          refine ⟨p, q, z, b1, b2, b3, b4, by rw [upd_ne (Ne.symm hfr)]; exact d, ?_⟩
          obtain ⟨_, _, _, _, _, _, _, _, e0⟩ := hR
          exact sq_new e0 nf e
        · rw [upd_same, List.map_append]; rfl
        · have h1 := x9.tup hrl q
          have h2 := e11.tup h1
          rw [upd_ne (ne_of h2 hf11 (by intro z; cases z))]
          exact h2
        · rw [upd_ne (Ne.symm hft), upd_same]; rfl
        · rcases List.mem_append.mp hj with hj | hj
          · exact hlong j hj
          · have : j = (ar, ln, if ar + ln + sl < 100 then ar + ln + sl else 100) := by simpa using hj
            subst this
            refine ⟨a0, by show ar ≤ 100; omega, l0, l1, ?_, ?_⟩
            · show (0 : Int) ≤ if ar + ln + sl < 100 then ar + ln + sl else 100
              split <;> omega
            · show (if ar + ln + sl < 100 then ar + ln + sl else 100) ≤ (100 : Int)
              split <;> omega
    · obtain ⟨y3, y4, y5, y6, rfl, hR3, x3, as, js, hf3, hp3, hlen, hlong⟩ := h
      refine ⟨_, rfl, f, _, rfl, .inl ⟨SqL.of hf3, fun p np => ?_⟩⟩
      have e9 : ExtR S.T r H (upd H3 p (.tup (as.map V.ref))) := x3.trans (Ext.toR (Ext.new np))
      refine Qf _ p js (hR3.ext (T := S.T) (Ext.new np)) e9 ⟨as, upd_same, paired_to (fun a b q => (Ext.new (T := S.T) np).tup q) hp3⟩ ⟨by omega, by omega, hlong⟩
end
end K23
/-! _law_all: the layers. -/
namespace K23
open PySem PySem.Spec PyProof.Rows L2

/-! ### sorted rows of numbers -/
def srt (l : List Nat) : List Nat := l.mergeSort fun a b => decide (a ≤ b)
theorem srt_spec (l : List Nat) : (srt l).Perm l ∧ (srt l).Pairwise (· ≤ ·) := by
  refine ⟨List.mergeSort_perm _ _, ?_⟩
  have := List.pairwise_mergeSort (le := fun a b : Nat => decide (a ≤ b)) (by intro a b c h1 h2; simp only [decide_eq_true_eq] at *; omega) (by intro a b; simp only [Bool.or_eq_true, decide_eq_true_eq]; omega) l
  exact this.imp fun {a b} h => of_decide_eq_true h
theorem srt_uniq {l m : List Nat} (p : m.Perm l) (h : m.Pairwise (· ≤ ·)) : m = srt l := perm_sorted_eq (p.trans (srt_spec l).1.symm) h (srt_spec l).2
theorem srt_congr {l m : List Nat} (p : l.Perm m) : srt l = srt m := srt_uniq ((srt_spec l).1.trans p) (srt_spec l).2
theorem srt_mem {l : List Nat} {k : Nat} : k ∈ srt l ↔ k ∈ l := (srt_spec l).1.mem_iff
theorem leftS_pos {js : List Job} {c : Pth} {now : Int} {w : Bool} (p : Path js c now w) (hc : c.length < js.length) : 0 < (leftS js.length (dn c)).length := by
  refine Nat.pos_of_ne_zero fun z => ?_
  have q := List.length_eq_zero_iff.mp z
  have qq : ∀ k, k < js.length → k ∈ dn c := fun k hk => by
    by_cases m : k ∈ dn c
    · exact m
    · have := mem_leftS.mpr ⟨hk, m⟩
      rw [q] at this
      cases this
  obtain ⟨r, pr⟩ := nodup_sub (l := List.range js.length) (m := dn c) List.nodup_range fun k hk => qq k (List.mem_range.mp hk)
  have h2 := pr.length_eq
  simp only [List.length_append, List.length_range, List.length_map] at h2
  omega

/-! ### the layer's keys -/
abbrev KP := List Nat × Int × Bool
def kOf (p : KP) : NestedKey := .tup [.tup (p.1.map fun k => .num (k : Nat)), .num p.2.1, .num (if p.2.2 = true then 1 else 0)]
def encP (p : KP) : PyData := .tuple [.tuple (p.1.map fun k => .int (k : Nat)), .int p.2.1, .bool p.2.2]
theorem kOf_inj {p q : KP} (h : kOf p = kOf q) : p = q := by
  obtain ⟨ks, now, w⟩ := p
  obtain ⟨ls, mow, v⟩ := q
  unfold kOf at h
  injection h with h
  injection h with h1 h
  injection h with h2 h
  injection h with h3 h
  injection h1 with h1
  injection h2 with h2
  injection h3 with h3
  have e1 : ks = ls := by
    have inj : ∀ (xs ys : List Nat), (xs.map fun k => NestedKey.num (k : Nat)) = (ys.map fun k => NestedKey.num (k : Nat)) → xs = ys := by
      intro xs
      induction xs with
      | nil => intro ys e; cases ys with
        | nil => rfl
        | cons y ys => cases e
      | cons x xs ih => intro ys e; cases ys with
        | nil => cases e
        | cons y ys =>
          rw [List.map_cons, List.map_cons] at e
          injection e with e1 e2
          injection e1 with e1
          rw [ih ys e2, Int.ofNat.inj e1]
    exact inj ks ls h1
  have e2 : now = mow := h2
  have e3 : w = v := by
    revert h3
    cases w <;> cases v <;> simp
  rw [e1, e2, e3]
theorem kOf_depth (p : KP) : (kOf p).depth ≤ 8 := by
  have : ∀ l : List Nat, NestedKey.depthAll (l.map fun k => NestedKey.num (k : Nat)) = 0 := fun l => by
    induction l with
    | nil => simp [NestedKey.depthAll]
    | cons x l ih => simp [NestedKey.depthAll, NestedKey.depth, ih]
  simp [kOf, NestedKey.depth, NestedKey.depthAll, this]
section
variable {H H' : Hp} {K : PySem.W.Frag} {T : List Addr}
def KeyAt (H : Hp) (a : Addr) (p : KP) : Prop := ∃ sa, H a = some (.tup [.ref sa, .int p.2.1, .bl p.2.2]) ∧ H sa = some (.tup (KInts p.1))
theorem nks_kints : ∀ ks : List Nat, NKs H (ks.map fun k => .num (k : Nat)) (KInts ks)
  | [] => .nil
  | k :: ks => .cons (.int _) (nks_kints ks)
theorem KeyAt.nk {a : Addr} {p : KP} (h : KeyAt H a p) : NK H (kOf p) (.ref a) := by
  obtain ⟨sa, h1, h2⟩ := h
  exact .tup h1 (.cons (.tup h2 (nks_kints _)) (.cons (.int _) (.cons (.bl _) .nil)))
theorem dps_kints : ∀ ks : List Nat, DpAll K H (KInts ks) (ks.map fun k => .int (k : Nat))
  | [] => .nil
  | k :: ks => .cons (.int _) (dps_kints ks)
theorem KeyAt.dp {a : Addr} {p : KP} (h : KeyAt H a p) : Dp K H (.ref a) (encP p) := by
  obtain ⟨sa, h1, h2⟩ := h
  exact .tup (SqT.of h1) (.cons (.tup (SqT.of h2) (dps_kints _)) (.cons (.int _) (.cons (.bl _) .nil)))
theorem KeyAt.to {a : Addr} {p : KP} (h : KeyAt H a p) (k : TK H H') : KeyAt H' a p := by
  obtain ⟨sa, h1, h2⟩ := h
  exact ⟨sa, k _ _ h1, k _ _ h2⟩
theorem enc_ints (ks ls : List Nat) : PySem.W.alikeAll (ks.map fun k => .int (k : Nat)) (ls.map fun k => .int (k : Nat)) = true := by
  have := PySem.W.alike_ints (ks.map fun k : Nat => (k : Int)) (ls.map fun k : Nat => (k : Int))
  rw [List.map_map, List.map_map] at this
  exact this
theorem encP_alike (p q : KP) : PySem.W.alike (encP p) (encP q) = true := by
  simp [encP, PySem.W.alike, PySem.W.alikeAll, enc_ints]
theorem encP_depth (p : KP) : (encP p).depth ≤ 8 := by
  have : PyData.depthAll (p.1.map fun k => PyData.int (k : Nat)) = 0 := by
    have := PySem.W.depth_ints (p.1.map fun k : Nat => (k : Int))
    rw [List.map_map] at this
    exact this
  simp [encP, PyData.depth, PyData.depthAll, this]
/-- an entry of the layer t -/
def EntS (H : Hp) (js : List Job) (t : Nat) (e : NE) : Prop := ∃ (c : Pth) (now : Int) (w : Bool) (va : Addr), Path js c now w ∧ c.length = t ∧ e.1 = kOf (srt (dn c), now, w) ∧ KeyAt H e.2.1 (srt (dn c), now, w) ∧ e.2.2 = .ref va ∧ PthAt H va c
theorem EntS.to {js : List Job} {t : Nat} {e : NE} (h : EntS H js t e) (k : TK H H') : EntS H' js t e := by
  obtain ⟨c, now, w, va, h1, h2, h3, h4, h5, h6⟩ := h
  exact ⟨c, now, w, va, h1, h2, h3, h4.to k, h5, h6.to k⟩
def Cmp (js : List Job) (t : Nat) (es : List NE) : Prop := ∀ c now w, Path js c now w → c.length = t → kOf (srt (dn c), now, w) ∈ es.map (·.1)
theorem ents_ok {js : List Job} {t : Nat} {es : List NE} (h : ∀ e ∈ es, EntS H js t e) : EOk H es := fun e he => by
  obtain ⟨c, now, w, va, h1, h2, h3, h4, h5, h6⟩ := h e he
  rw [h3]
  exact ⟨h4.nk, kOf_depth _⟩
/-- the entries with their keys' parts -/
theorem ents_bs {js : List Job} {t : Nat} : ∀ {es : List NE}, (∀ e ∈ es, EntS H js t e) → ∃ bs : List (NE × KP), bs.map Prod.fst = es ∧ ∀ b ∈ bs, b.1.1 = kOf b.2 ∧ KeyAt H b.1.2.1 b.2
  | [], _ => ⟨[], rfl, fun _ h => nomatch h⟩
  | e :: es, h => by
    obtain ⟨bs, e1, e2⟩ := ents_bs fun x hx => h x (List.mem_cons_of_mem _ hx)
    obtain ⟨c, now, w, va, h1, h2, h3, h4, h5, h6⟩ := h e List.mem_cons_self
    refine ⟨(e, (srt (dn c), now, w)) :: bs, by rw [List.map_cons, e1], fun b hb => ?_⟩
    rcases List.mem_cons.mp hb with z | z
    · subst z; exact ⟨h3, h4⟩
    · exact e2 b z
/-- the key of one step on -/
def nxt (js : List Job) (p : KP) (k : Nat) : KP := (srt (p.1 ++ [k]), stt js p.2.1 k + lng js k, p.2.2 || decide (stt js p.2.1 k > lst js p.2.1 p.1))
end
/-! ### two rules: tuple + tuple, to one end; a or b < c -/
section
variable {X : Cx} {T : List Addr}
def rCatX (T : List Addr) : R2 := fun x y H Q => ∃ a b xs ys, x = .ref a ∧ y = .ref b ∧ H a = some (.tup xs) ∧ H b = some (.tup ys) ∧ xs.length + ys.length ≤ sizeLine ∧ ∀ H' p, Ext T H H' → H' p = some (.tup (xs ++ ys)) → Q (.ref p) H'
theorem op_catX : OpR X (binaryOp .Add) (rCatX T) := by
  intro pins s σ H x y v u Q I rx ry h
  obtain ⟨a, b, xs, ys, rfl, rfl, ha, hb, hz, q⟩ := h
  refine op_catA pins s σ H _ _ v u Q I rx ry ⟨a, b, xs, ys, rfl, rfl, SqT.of ha, SqT.of hb, hz, fun e => ?_, fun _ e => ?_, fun _ _ p np => q _ p (Ext.new np) upd_same⟩
  · subst e; exact q H b (Ext.refl T H) hb
  · subst e; exact q H a (Ext.refl T H) (by rw [List.append_nil]; exact ha)
def tOr2 (i j l : Nat) : TE := fun σ H Q => ∃ (c : Bool) (x y : Int), σ[i]? = some (some (.bl c)) ∧ σ[j]? = some (some (.int x)) ∧ σ[l]? = some (some (.int y)) ∧ Q (.bl (c || decide (y < x))) H
theorem pe_orC {e : Expr} {i j l : Nat} (h : PE X e (tOrV (tVar i) (tOp (rI0 fun a b => .bl (decide (b < a))) (tVar j) (tVar l)))) : PE X e (tOr2 i j l) := ⟨fun pins s σ H Q I q => h.run pins s σ H Q I (by
  obtain ⟨c, x, y, h1, h2, h3, q⟩ := q
  refine ⟨_, h1, c, rfl, ?_⟩
  cases c with
  | true => exact q
  | false => exact ⟨_, h2, _, h3, _, _, rfl, rfl, q⟩)⟩
end
theorem ExtR.rowD {T : List Addr} {r : Addr} {H : Hp} {o u : HO} (h : H r = some u) (n : ∀ ps, u ≠ .tbl ps) : ExtR T r H (upd H r o) := by
  refine ⟨fun b u hb e _ => by rw [upd_ne hb]; exact e, fun tb P hP => ?_, fun b e => ?_⟩
  · obtain ⟨ps, q, t⟩ := tb P hP
    exact ⟨ps, by rw [upd_ne (ne_of q h (fun z => n ps z.symm))]; exact q, t⟩
  · by_cases hb : b = r
    · rw [hb, upd_same] at e; cases e
    · rw [upd_ne hb] at e; exact e
theorem ExtR.base {T : List Addr} {r : Addr} {H H1 H2 : Hp} (er : ExtR T r H1 H2) (e : Ext T H H1) (hn : H r = none) : Ext T H H2 :=
  ⟨fun b o h n => er.keep b o (ne_of_none h hn) (e.keep b o h n) n, fun h => er.tabs (e.tabs h), fun b h => e.old b (er.old b h)⟩
theorem ExtR.tk {T : List Addr} {r : Addr} {H H1 : Hp} {P : Program} {w : World} {es : List NE} (e : ExtR T r H H1) (hr : H r = some (DN P w r es)) : TK H H1 := fun a xs q => e.keep _ _ (ne_of q hr (by intro z; cases z)) q fun _ z => nomatch z
theorem srt_ints (l : List Nat) : (l.mergeSort (PySem.W.dataLe false fun k : Nat => .int (k : Int))).map (fun k : Nat => V.int (k : Int)) = KInts (srt l) := by
  rw [PySem.W.dataLe_int (fun k : Nat => (k : Int))]
  unfold KInts srt
  congr 2
  funext a b
  simp
theorem al_ints (l : List Nat) : PySem.W.AllAlike (l.map fun k : Nat => PyData.int (k : Int)) := PySem.W.AllAlike.of fun _ _ => by simp [PySem.W.alike]
theorem so_ints (l : List Nat) : PySem.W.Sortable (l.map fun k : Nat => PyData.int (k : Int)) := PySem.W.Sortable.others fun _ => ⟨(fun z => nomatch z), fun _ z => nomatch z⟩
theorem srt_nil : srt [] = [] := by simp [srt]
section
variable {P : Program} {w : World} {K : PySem.W.Frag} {mg : Str → Option Value} {base : Heap}
/-- the result: keys (wait?, end), values the paths -/
def kFin (p : Bool × Int) : NestedKey := .tup [.num (if p.1 = true then 1 else 0), .num p.2]
def FinS (H : Hp) (js : List Job) (e : NE) : Prop := ∃ (c : Pth) (now : Int) (w : Bool) (va : Addr), Path js c now w ∧ c.length = js.length ∧ e.1 = kFin (w, now) ∧ H e.2.1 = some (.tup [.bl w, .int now]) ∧ e.2.2 = .ref va ∧ PthAt H va c
theorem FinS.to {H H' : Hp} {js : List Job} {e : NE} (h : FinS H js e) (k : TK H H') : FinS H' js e := by
  obtain ⟨c, now, w, va, h1, h2, h3, h4, h5, h6⟩ := h
  exact ⟨c, now, w, va, h1, h2, h3, k _ _ h4, h5, h6.to k⟩
theorem kFin_inj {p q : Bool × Int} (h : kFin p = kFin q) : p = q := by
  obtain ⟨w, now⟩ := p
  obtain ⟨v, mow⟩ := q
  unfold kFin at h
  injection h with h
  injection h with h1 h
  injection h with h2 h
  injection h1 with h1
  injection h2 with h2
  have e2 : now = mow := h2
  have e3 : w = v := by
    revert h1
    cases w <;> cases v <;> simp
  rw [e2, e3]
theorem kFin_nk {H : Hp} {a : Addr} {p : Bool × Int} (h : H a = some (.tup [.bl p.1, .int p.2])) : NK H (kFin p) (.ref a) := .tup h (.cons (.bl _) (.cons (.int _) .nil))
theorem kFin_depth (p : Bool × Int) : (kFin p).depth ≤ 8 := by simp [kFin, NestedKey.depth, NestedKey.depthAll]
theorem fins_ok {H : Hp} {js : List Job} {es : List NE} (h : ∀ e ∈ es, FinS H js e) : EOk H es := fun e he => by
  obtain ⟨c, now, w, va, h1, h2, h3, h4, h5, h6⟩ := h e he
  rw [h3]
  exact ⟨kFin_nk h4, kFin_depth _⟩
theorem fins_all {H : Hp} {js : List Job} {es : List NE} (h : ∀ e ∈ es, FinS H js e) : ∀ e ∈ putAll [] es, FinS H js e := fun e he => by
  obtain ⟨⟨c, now, w, va, h1, h2, h3, h4, h5⟩, now', w', h6, h7⟩ := all_putAll (S := fun k v => ∃ (c : Pth) (now : Int) (w : Bool) (va : Addr), Path js c now w ∧ c.length = js.length ∧ k = kFin (w, now) ∧ v = .ref va ∧ PthAt H va c) (T := fun k a => ∃ (now : Int) (w : Bool), k = kFin (w, now) ∧ H a = some (.tup [.bl w, .int now])) es []
    (fun _ h => nomatch h) (fun e he => by
      obtain ⟨c, now, w, va, h1, h2, h3, h4, h5, h6⟩ := h e he
      exact ⟨⟨c, now, w, va, h1, h2, h3, h5, h6⟩, now, w, h3, h4⟩) e he
  have e9 := kFin_inj (h3.symm.trans h6)
  injection e9 with e8 e9
  subst e8 e9
  exact ⟨c, now, w, va, h1, h2, h3, h7, h4, h5⟩
def spAll (P : Program) (w : World) (T : List Addr) : Sp := fun vs H Q _ => ∃ (a : Addr) (js : List Job), vs = [.ref a] ∧ JobsAt H a js ∧ JobsOk js ∧
  ∀ H' d es, Ext T H H' → H' d = some (DN P w d es) → (∀ e ∈ es, FinS H' js e) → (∀ c now w, Path js c now w → c.length = js.length → kFin (w, now) ∈ es.map (·.1)) → es.length ≤ 7 ^ 7 → Q (.ref d) H'
theorem Fs.okAll (S : Fs K mg base) {k : Nat} : FnOk P w K mg base CX0 (k + 1) S.all.a S.all.fd ["_law_jobs_here"] (spAll P w S.T) := by
  have g := S.g
  refine S.all.F.ok scAll (fun vs H Q E h => ?_) (fun cdv A outer s H vs Q E hr h => ?_)
  · obtain ⟨a, js, rfl, _⟩ := h; rfl
  · obtain ⟨a, js, rfl, hJ, hok, Qf⟩ := h
    refine ⟨_,
(pss_cons (ps_set (i := 1) scAll.nd rfl (Or.inr rfl) (pe_disp1 hr (pe_tup (pa_cons (pe_tup pa_nil) (pa_cons pe_int (pa_cons pe_bl pa_nil)))) (pe_tup pa_nil)))
      (pss_cons (ps_for PassesOwn.never rfl (pi_range1 (by rfl) g.range (pa_cons (pe_callB call_len_seq (by rfl) g.len (by decide +kernel) (pa_cons (pv 0) pa_nil)) pa_nil)) (pg_name (i := 2) scAll.nd rfl (Or.inl rfl))
      (pss_cons (ps_set (i := 3) scAll.nd rfl (Or.inl rfl) pe_newN)
      (pss_cons (ps_for PassesOwn.never rfl (pi_list (pe_callB (cr_sortedDat hr) (by rfl) g.sorted (by decide +kernel) (pa_cons (pe_callTy (call_listN rfl) (by rfl) g.list (by decide +kernel) (pa_cons (pv 1) pa_nil)) pa_nil))) (pg_tup rfl (pgs_cons (pg_name (i := 4) scAll.nd rfl (Or.inr rfl)) (pgs_cons (pg_name (i := 5) scAll.nd rfl (Or.inl rfl)) (pgs_cons (pg_name (i := 6) scAll.nd rfl (Or.inl rfl)) pgs_nil))))
      (pss_cons (ps_setLc (i := 7) (own := [("_law_k", 9)]) rfl scAll.nd rfl rfl (sw_true rfl rfl rfl (by decide +kernel)) (pi_range1 (by rfl) g.range (pa_cons (pe_callB call_len_seq (by rfl) g.len (by decide +kernel) (pa_cons (pv 0) pa_nil)) pa_nil)) (blkOk_by (N := ["_law_jobs_here", "_law_layer", "_law_turn", "_law_more", "_law_some", "_law_now", "_law_waits", "_law_left", "_law_least", "_law_k", "_law_start", "_law_key"]) (sc := defScope sAll) (own := [("_law_k", 9)]) (by decide +kernel)) (fun _ _ _ _ _ => (pg_name (i := 9) scAll.nd rfl (Or.inl rfl))) (fun _ _ _ _ _ => pts_one (pt_cmpR (r := rIn K true) op_notIn_seq (pv 9) (pv 4) (by rfl))) (fun _ _ _ _ _ => (pv 9)))
      (pss_cons (ps_set (i := 8) scAll.nd rfl (Or.inl rfl) (pe_callB (call_max2 rfl) (by rfl) g.max (by decide +kernel) (pa_cons (pv 5) (pa_cons (pe_callB (cr_min rfl) (by rfl) g.min (by decide +kernel) (pa_cons (pe_lc (own := [("_law_k", 9)]) rfl scAll.nd (pi_list (pv 7)) (blkOk_by (N := ["_law_jobs_here", "_law_layer", "_law_turn", "_law_more", "_law_some", "_law_now", "_law_waits", "_law_left", "_law_least", "_law_k", "_law_start", "_law_key"]) (sc := defScope sAll) (own := [("_law_k", 9)]) (by decide +kernel)) (fun _ _ _ _ _ => (pg_name (i := 9) scAll.nd rfl (Or.inl rfl))) (fun _ _ _ _ _ => pts_nil) (fun _ _ _ _ _ => (pe_ix (r := rIxT K) ix_tup (pe_ix (r := rIxT K) ix_tup (pv 0) (pv 9) (fun _ _ => rfl)) pe_int (fun _ _ => rfl)))) pa_nil)) pa_nil))))
      (pss_one (ps_for PassesOwn.never rfl (pi_list (pv 7)) (pg_name (i := 9) scAll.nd rfl (Or.inl rfl))
      (pss_cons (ps_set (i := 10) scAll.nd rfl (Or.inl rfl) (pe_callB (call_max2 rfl) (by rfl) g.max (by decide +kernel) (pa_cons (pv 5) (pa_cons (pe_ix ix_tup (pe_ix ix_tup (pv 0) (pv 9) (fun _ _ => rfl)) pe_int (fun _ _ => rfl)) pa_nil))))
      (pss_one (ps_if (pt_cmpR op_le (pe_op op_add (pv 10) (pe_ix ix_tup (pe_ix ix_tup (pv 0) (pv 9) (fun _ _ => rfl)) pe_int (fun _ _ => rfl))) (pe_ix ix_tup (pe_ix ix_tup (pv 0) (pv 9) (fun _ _ => rfl)) pe_int (fun _ _ => rfl)) (nomark _)) (pss_cons (ps_set (i := 11) scAll.nd rfl (Or.inl rfl) (pe_tup (pa_cons (pe_callTy call_tuple_of (by rfl) g.tuple (by decide +kernel) (pa_cons (pe_callB (cr_sortedDat hr) (by rfl) g.sorted (by decide +kernel) (pa_cons (pe_op (op_catX (T := S.T)) (pv 4) (pe_tup (pa_cons (pv 9) pa_nil))) pa_nil)) pa_nil)) (pa_cons (pe_op op_add (pv 10) (pe_ix ix_tup (pe_ix ix_tup (pv 0) (pv 9) (fun _ _ => rfl)) pe_int (fun _ _ => rfl))) (pa_cons (pe_orC (pe_or (pv 6) (pe_one (pe_cmpR op_gt (pv 10) (pv 8) (nomark _))))) pa_nil)))))
      (pss_one (ps_asg (pe_op (op_catX (T := S.T)) (pe_ix (ix_dn hr) (pv 1) (pe_tup (pa_cons (pv 4) (pa_cons (pv 5) (pa_cons (pv 6) pa_nil)))) (fun _ _ => rfl)) (pe_tup (pa_cons (pe_tup (pa_cons (pv 9) (pa_cons (pv 10) pa_nil))) pa_nil))) (pg_sub (pv 3) (pv 11) (set_dn hr))))) pss_nil))))))))
      (pss_one (ps_set (i := 1) scAll.nd rfl (Or.inr rfl) (pv 3))))))
      (pss_one (ps_ret (pe_callTy (call_dictN rfl hr) (by rfl) g.dict (by decide +kernel) (pa_cons (pe_lc (own := [("_law_key", 11)]) rfl scAll.nd (pi_list (pe_callB (cr_sortedDat hr) (by rfl) g.sorted (by decide +kernel) (pa_cons (pe_callTy (call_listN rfl) (by rfl) g.list (by decide +kernel) (pa_cons (pv 1) pa_nil)) pa_nil))) (blkOk_by (N := ["_law_jobs_here", "_law_layer", "_law_turn", "_law_more", "_law_some", "_law_now", "_law_waits", "_law_left", "_law_least", "_law_k", "_law_start", "_law_key"]) (sc := defScope sAll) (own := [("_law_key", 11)]) (by decide +kernel)) (fun _ _ _ _ _ => (pg_name (i := 11) scAll.nd rfl (Or.inl rfl))) (fun _ _ _ _ _ => pts_nil) (fun _ _ _ _ _ => (pe_tup (pa_cons (pe_tup (pa_cons (pe_ix (r := rIxT K) ix_tup (pv 11) pe_int (fun _ _ => rfl)) (pa_cons (pe_ix (r := rIxT K) ix_tup (pv 11) pe_int (fun _ _ => rfl)) pa_nil))) (pa_cons (pe_ix (r := rIxN P w) (ix_dn hr) (pv 1) (pv 11) (fun _ _ => rfl)) pa_nil))))) pa_nil))))))
      , ?_⟩
    obtain ⟨as, hA, hp⟩ := id hJ
    have hl : as.length = js.length := hp.length
    have hlm : (as.map V.ref).length = js.length := by rw [List.length_map, hl]
    have hn7 := hok.2.1
    have hlen := hok.len
    -- {((), 0, False): ()}
    refine fun d nd => ⟨Nat.zero_le _, fun e0 ne0 => ⟨small8 (by simp), fun k0 nk0 => ⟨Nat.zero_le _, fun v0 nv0 => ?_⟩⟩⟩
    have x1 : Ext S.T H (upd H d (DN P w d [])) := Ext.new nd
    have x2 : Ext S.T (upd H d (DN P w d [])) (upd (upd H d (DN P w d [])) e0 (.tup [])) := Ext.new ne0
    have x3 : Ext S.T _ (upd (upd (upd H d (DN P w d [])) e0 (.tup [])) k0 (.tup [.ref e0, .int 0, .bl false])) := Ext.new nk0
    have x4 : Ext S.T _ (upd (upd (upd (upd H d (DN P w d [])) e0 (.tup [])) k0 (.tup [.ref e0, .int 0, .bl false])) v0 (.tup [])) := Ext.new nv0
    have hk0 : KeyAt (upd (upd (upd (upd H d (DN P w d [])) e0 (.tup [])) k0 (.tup [.ref e0, .int 0, .bl false])) v0 (.tup [])) k0 ([], 0, false) := ⟨e0, x4.tup upd_same, (x3.trans x4).tup upd_same⟩
    have hd0 := ((x2.trans x3).trans x4).dn (P := P) (w := w) (d := d) (es := []) upd_same
    have hv0 : upd (upd (upd (upd H d (DN P w d [])) e0 (.tup [])) k0 (.tup [.ref e0, .int 0, .bl false])) v0 (.tup []) v0 = some (.tup []) := upd_same
    have x0 : Ext S.T H (upd (upd (upd (upd H d (DN P w d [])) e0 (.tup [])) k0 (.tup [.ref e0, .int 0, .bl false])) v0 (.tup [])) := ((x1.trans x2).trans x3).trans x4
    refine ⟨k0, kOf ([], 0, false), rfl, hd0, hk0.nk, kOf_depth _, ?_⟩
    have x5 : Ext S.T H (upd (upd (upd (upd (upd H d (DN P w d [])) e0 (.tup [])) k0 (.tup [.ref e0, .int 0, .bl false])) v0 (.tup [])) d (DN P w d [(kOf ([], 0, false), k0, .ref v0)])) := x0.put nd
    have hd5 : upd (upd (upd (upd (upd H d (DN P w d [])) e0 (.tup [])) k0 (.tup [.ref e0, .int 0, .bl false])) v0 (.tup [])) d (DN P w d [(kOf ([], 0, false), k0, .ref v0)]) d = some (DN P w d [(kOf ([], 0, false), k0, .ref v0)]) := upd_same
    have k5 : TK (upd (upd (upd (upd H d (DN P w d [])) e0 (.tup [])) k0 (.tup [.ref e0, .int 0, .bl false])) v0 (.tup [])) (upd (upd (upd (upd (upd H d (DN P w d [])) e0 (.tup [])) k0 (.tup [.ref e0, .int 0, .bl false])) v0 (.tup [])) d (DN P w d [(kOf ([], 0, false), k0, .ref v0)])) := fun a xs q => by
      rw [upd_ne (ne_of q hd0 (by intro z; cases z))]
      exact q
    have hk5 := hk0.to k5
    have hv5 := k5 _ _ hv0
    refine ⟨_, rfl, a, _, rfl, .inr (SqT.of (x5.tup hA)), (js.length : Nat), by rw [hlm], by omega, by omega, ?_⟩
    refine for_range (n := js.length) (fun t σ H1 => ∃ (d : Addr) (es : List NE) (y2 y3 y4 y5 y6 y7 y8 y9 y10 y11 : Option V), σ = [some (.ref a), some (.ref d), y2, y3, y4, y5, y6, y7, y8, y9, y10, y11] ∧ Ext S.T H H1 ∧ H1 d = some (DN P w d es) ∧ (∀ e ∈ es, EntS H1 js t e) ∧ Cmp js t es ∧ es.length ≤ 7 ^ t)
      ⟨d, _, none, none, none, none, none, none, none, none, none, none, rfl, x5, hd5, fun e he => ?_, fun c now w hc h0 => ?_, Nat.le_refl _⟩ (fun t σ H1 ht h => ?_) (fun σ H1 h => ?_)
    · have : e = (kOf ([], 0, false), k0, .ref v0) := by simpa using he
      subst this
      refine ⟨[], 0, false, v0, .nil, rfl, ?_, ?_, rfl, [], hv5, .nil⟩
      · rw [show dn [] = [] from rfl, srt_nil]
      · rw [show dn [] = [] from rfl, srt_nil]; exact hk5
    · have : c = [] := List.length_eq_zero_iff.mp h0
      subst this
      obtain ⟨rfl, rfl⟩ := Path.nil.det hc
      rw [show dn [] = [] from rfl, srt_nil]
      simp
    · obtain ⟨d, es, y2, y3, y4, y5, y6, y7, y8, y9, y10, y11, rfl, e1, hd1, hes, hcm, hln⟩ := h
      have ez : (0 : Int) + (t : Nat) = (t : Nat) := Int.zero_add _
      obtain ⟨bs, hbs, hbk⟩ := ents_bs hes
      have hbv : bs.map (fun b => V.ref b.1.2.1) = es.map (fun e => V.ref e.2.1) := by rw [← hbs, List.map_map]; rfl
      have h7t : 7 ^ t ≤ 7 ^ 6 := Nat.pow_le_pow_right (by decide) (by omega)
      have hlb : bs.length = es.length := by rw [← hbs, List.length_map]
      -- more = {}; for some, now, waits in sorted(list(layer))
      refine fun dm ndm => ⟨_, rfl, d, es, rfl, ?_, fun l1 nl1 => ⟨_, l1, bs, fun b => .ref b.1.2.1, fun b => encP b.2, rfl, .inl ?_, fun b hb => ?_, PySem.W.AllAlike.of fun _ _ => encP_alike _ _, PySem.W.Sortable.tuples fun _ => ⟨_, _, rfl⟩, fun _ _ => encP_depth _, fun L nL => ⟨L, rfl, ⟨_, SqL.of upd_same⟩, ?_⟩⟩⟩
      · exact (Ext.new (T := S.T) ndm).dn hd1
      · rw [hbv]; exact SqL.of upd_same
      · obtain ⟨_, hb2⟩ := hbk b hb
        exact KeyAt.dp (hb2.to ((Ext.new (T := S.T) ndm).trans (Ext.new nl1)).tk)
      have pm := List.mergeSort_perm bs (PySem.W.dataLe false fun b : NE × KP => encP b.2)
      generalize hss : bs.mergeSort (PySem.W.dataLe false fun b : NE × KP => encP b.2) = ss at pm ⊢
      have x1 : Ext S.T H1 (upd H1 dm (DN P w dm [])) := Ext.new ndm
      have x2 : Ext S.T (upd H1 dm (DN P w dm [])) (upd (upd H1 dm (DN P w dm [])) l1 (.lst (es.map fun e => V.ref e.2.1))) := Ext.new nl1
      have x3 : Ext S.T _ (upd (upd (upd H1 dm (DN P w dm [])) l1 (.lst (es.map fun e => V.ref e.2.1))) L (.lst (ss.map fun b => V.ref b.1.2.1))) := Ext.new nL
      have x13 : Ext S.T H1 _ := (x1.trans x2).trans x3
      have hL3 : upd (upd (upd H1 dm (DN P w dm [])) l1 (.lst (es.map fun e => V.ref e.2.1))) L (.lst (ss.map fun b => V.ref b.1.2.1)) L = some (.lst (ss.map fun b => V.ref b.1.2.1)) := upd_same
      have hdm3 := (x2.trans x3).dn (P := P) (w := w) (d := dm) (es := []) upd_same
      have hd3 := x13.dn hd1
      have hddm : d ≠ dm := ne_of_none hd1 ndm
      have hLdm : L ≠ dm := Ne.symm (ne_of_none (x2.dn (P := P) (w := w) (d := dm) (es := []) upd_same) nL)
      have hlss : ss.length = es.length := by rw [pm.length_eq, hlb]
      refine for_list (xs := ss.map fun b => V.ref b.1.2.1) (fun i σ H2 => ∃ (em : List NE) (y4 y5 y6 y7 y8 y9 y10 y11 : Option V), σ = [some (.ref a), some (.ref d), some (.int (0 + (t : Nat))), some (.ref dm), y4, y5, y6, y7, y8, y9, y10, y11] ∧
          ExtR S.T dm (upd (upd (upd H1 dm (DN P w dm [])) l1 (.lst (es.map fun e => V.ref e.2.1))) L (.lst (ss.map fun b => V.ref b.1.2.1))) H2 ∧ H2 dm = some (DN P w dm em) ∧ (∀ e ∈ em, EntS H2 js (t + 1) e) ∧
          (∀ b ∈ ss.take i, ∀ k ∈ leftS js.length b.2.1, fits js b.2.2.1 k = true → kOf (nxt js b.2 k) ∈ em.map (·.1)) ∧ em.length ≤ 7 * i)
        ⟨[], _, _, _, _, _, _, _, _, rfl, ExtR.refl _ _ _, hdm3, (fun _ h => nomatch h), (fun _ h => nomatch h), Nat.zero_le _⟩ (fun i σ H2 _ h => ?_) (fun i x σ H2 hx h => ?_) (fun σ H2 h => ?_)
      · obtain ⟨_, _, _, _, _, _, _, _, _, _, er, _⟩ := h
        exact SqL.of (er.keep L _ hLdm hL3 fun _ z => nomatch z)
      · obtain ⟨em, y4, y5, y6, y7, y8, y9, y10, y11, rfl, er2, hdm2, hem, hdone, hel⟩ := h
        rw [List.getElem?_map] at hx
        obtain ⟨b, hb, rfl⟩ := Option.map_eq_some_iff.mp hx
        have hbm := pm.mem_iff.mp (List.mem_of_getElem? hb)
        obtain ⟨hb1, hb2⟩ := hbk b hbm
        have hbe : b.1 ∈ es := by rw [← hbs]; exact List.mem_map.mpr ⟨b, hbm, rfl⟩
        -- the path that the layer holds at this key
        obtain ⟨v, hv⟩ := at_of_key (es := es) (k := b.1.1) (List.mem_map.mpr ⟨b.1, hbe, rfl⟩)
        obtain ⟨e, he, ee1, ee2⟩ := at_mem hv
        obtain ⟨c, now, w0, va, hpth, hct, hek, _, hva, hpa⟩ := hes e he
        have hb0 : b.2 = (srt (dn c), now, w0) := kOf_inj (hb1.symm.trans (ee1.symm.trans hek))
        have hvv : v = .ref va := ee2.symm.trans hva
        subst hvv
        rw [hb1] at hv
        rw [hb0] at hb2 hv
        have k12 : TK H1 H2 := fun a xs q => er2.tk hdm3 a xs (x13.tk a xs q)
        have hkb := hb2.to k12
        obtain ⟨sa, hk1, hk2⟩ := id hkb
        have hks : ∀ k, k ∈ srt (dn c) ↔ k ∈ dn c := fun k => srt_mem
        have hlf0 : leftS js.length (srt (dn c)) = leftS js.length (dn c) := leftS_congr hks
        have hls0 : lst js now (srt (dn c)) = lst js now (dn c) := lst_congr hks
        have hd2 : H2 d = some (DN P w d es) := er2.keep d _ hddm hd3 fun _ z => nomatch z
        have hJ2 : JobsAt H2 a js := by
          obtain ⟨as', h1, h2⟩ := hJ.to e1
          exact ⟨as', k12 _ _ h1, paired_to (fun _ _ q => k12 _ _ q) h2⟩
        have hA2 : H2 a = some (.tup (as.map V.ref)) := k12 _ _ (e1.tup hA)
        refine ⟨b.1.2.1, _, rfl, SqT.of hk1, rfl, _, _, rfl, _, _, rfl, _, _, rfl, rfl, ?_⟩
        -- left
        refine ⟨_, rfl, a, _, rfl, .inr (SqT.of hA2), (js.length : Nat), by rw [hlm], by omega, by omega, fun LF nLF => ?_⟩
        refine lc_range (n := js.length) (fun j H3 => Ext S.T H2 H3 ∧ H3 LF = some (.lst (KInts ((List.range j).filter fun k => decide (k ∉ srt (dn c)))))) ⟨Ext.new nLF, upd_same⟩ (fun j H3 hj h => ?_) (fun H3 h => ?_)
        · obtain ⟨e3, hL9⟩ := h
          have ez : (0 : Int) + (j : Nat) = (j : Nat) := Int.zero_add _
          rw [ez]
          refine ⟨rfl, _, rfl, _, rfl, sa, _, rfl, .inr (SqT.of (e3.tup hk2)), rfl, kints_flat _, _, rfl, ?_⟩
          have en : (!inV (.int (j : Nat)) (KInts (srt (dn c)))) = decide (j ∉ srt (dn c)) := by
            rw [in_kints]; by_cases z : j ∈ srt (dn c) <;> simp [z]
          refine ite2 (fun z => ?_) (fun z => ?_)
          · have z' : decide (j ∉ srt (dn c)) = true := by rw [← en]; exact z
            refine ⟨_, rfl, _, hL9, small7 ?_, e3.put nLF, ?_⟩
            · unfold KInts
              rw [List.length_map]
              have := List.length_filter_le (fun k => decide (k ∉ srt (dn c))) (List.range j)
              rw [List.length_range] at this
              omega
            · rw [upd_same, List.range_succ, filt_snoc, if_pos z']
              simp [KInts]
          · have z' : ¬ decide (j ∉ srt (dn c)) = true := by rw [← en]; exact z
            refine ⟨e3, ?_⟩
            rw [List.range_succ, filt_snoc, if_neg z', List.append_nil]
            exact hL9
        obtain ⟨e3, hL9⟩ := h
        rw [show (List.range js.length).filter (fun k => decide (k ∉ srt (dn c))) = leftS js.length (srt (dn c)) from rfl, hlf0] at hL9
        have hpos := leftS_pos hpth (by omega)
        have hlt : ∀ k ∈ leftS js.length (dn c), k < js.length := fun k hk => (mem_leftS.mp hk).1
        have hlf7 : (leftS js.length (dn c)).length ≤ 7 := by
          have := leftS_len hpth
          omega
        have hmem : ∀ k ∈ leftS js.length (dn c), k ∈ leftS js.length (dn c) := fun _ h => h
        generalize hlf : leftS js.length (dn c) = lf at hL9 hpos hlt hlf7 hmem
        have hkl : (KInts lf).length = lf.length := by simp [KInts]
        -- least
        refine ⟨_, rfl, _, rfl, LF, rfl, ⟨_, SqL.of hL9⟩, fun M nM => ?_⟩
        refine lc_it (walk_list (K := K) (xs := KInts lf)) (fun j H4 => Ext S.T H3 H4 ∧ H4 M = some (.lst ((lf.take j).map fun k => V.int (arr js k)))) ⟨Ext.new nM, upd_same⟩ (fun j H4 _ h => SqL.of (h.1.lst hL9)) (fun j x H4 H5 hj h hy => ?_) (fun H4 h => ?_)
        · obtain ⟨rfl, hx⟩ := hy
          obtain ⟨e4, hM⟩ := h
          unfold KInts at hx
          rw [List.getElem?_map] at hx
          obtain ⟨k, hk, rfl⟩ := Option.map_eq_some_iff.mp hx
          obtain ⟨xs, p, hA6, hat, hpj⟩ := (hJ2.to (e3.trans e4)).get (hlt k (List.mem_of_getElem? hk))
          refine ⟨rfl, _, rfl, _, rfl, a, _, _, _, rfl, rfl, SqT.of hA6, hat, p, _, _, _, rfl, rfl, SqT.of hpj, atI_nat (j := 0) rfl, _, hM, small7 ?_, e4.put nM, ?_⟩
          · rw [List.length_map, List.length_take]; omega
          · rw [upd_same, take_snoc hk, List.map_append]; rfl
        obtain ⟨e4, hM⟩ := h
        rw [hkl, List.take_length] at hM
        refine ⟨M, lf.map (arr js), rfl, SqL.of (by rw [List.map_map]; exact hM), by rw [List.length_map]; exact hpos, fun m hm1 hm2 => ⟨_, _, rfl, ?_⟩⟩
        have hm := mn_uniq hm1 hm2
        have hle : (if m > now then m else now) = lst js now (dn c) := by
          show mx now m = mx now _
          rw [hm, hlf]
        rw [hle]
        have e24 : Ext S.T H2 H4 := e3.trans e4
        have hL4 := e4.lst hL9
        have hdm4 := e24.dn hdm2
        have hLFdm : LF ≠ dm := Ne.symm (ne_of_none hdm2 nLF)
        refine ⟨_, rfl, LF, rfl, ⟨_, SqL.of hL4⟩, for_list (xs := KInts lf) (fun j σ H5 => ∃ (em5 : List NE) (y9 y10 y11 : Option V), σ = [some (.ref a), some (.ref d), some (.int (0 + (t : Nat))), some (.ref dm), some (.ref sa), some (.int now), some (.bl w0), some (.ref LF), some (.int (lst js now (dn c))), y9, y10, y11] ∧
            ExtR S.T dm H4 H5 ∧ H5 dm = some (DN P w dm em5) ∧ (∀ e ∈ em5, EntS H5 js (t + 1) e) ∧ (∀ b ∈ ss.take i, ∀ k ∈ leftS js.length b.2.1, fits js b.2.2.1 k = true → kOf (nxt js b.2 k) ∈ em5.map (·.1)) ∧
            (∀ k ∈ lf.take j, fits js now k = true → kOf (nxt js (srt (dn c), now, w0) k) ∈ em5.map (·.1)) ∧ em5.length ≤ 7 * i + j)
          ⟨em, _, _, _, rfl, ExtR.refl _ _ _, hdm4, fun e he => (hem e he).to e24.tk, hdone, (fun _ h => nomatch h), hel⟩ (fun j σ H5 _ h => ?_) (fun j x σ H5 hx h => ?_) (fun σ H5 h => ?_)⟩
        · obtain ⟨_, _, _, _, _, er, _⟩ := h
          exact SqL.of (er.keep LF _ hLFdm hL4 fun _ z => nomatch z)
        · obtain ⟨em5, y9, y10, y11, rfl, er5, hdm5, hem5, hdone5, hj5, hel5⟩ := h
          unfold KInts at hx
          rw [List.getElem?_map] at hx
          obtain ⟨k, hk, rfl⟩ := Option.map_eq_some_iff.mp hx
          have hkm := List.mem_of_getElem? hk
          have hkl' := hlt k hkm
          have k45 := er5.tk hdm4
          have k25 : TK H2 H5 := fun a xs q => k45 a xs (e24.tk a xs q)
          have hJ5 : JobsAt H5 a js := by
            obtain ⟨as', h1, h2⟩ := hJ2
            exact ⟨as', k25 _ _ h1, paired_to (fun _ _ q => k25 _ _ q) h2⟩
          have hd5' : H5 d = some (DN P w d es) := er5.keep d _ hddm (e24.dn hd2) fun _ z => nomatch z
          have hks5 := k25 _ _ hk2
          obtain ⟨xs, p, hA6, hat, hpj⟩ := hJ5.get hkl'
          have hta : lf.take (j + 1) = lf.take j ++ [k] := take_snoc hk
          have hj7 : j < 7 := by
            have := (List.getElem?_eq_some_iff.mp hk).1
            omega
          have hi7 : i < 7 ^ 6 := by
            have h1 := (List.getElem?_eq_some_iff.mp hb).1
            omega
          refine ⟨_, rfl, _, rfl, _, rfl, a, _, _, _, rfl, rfl, SqT.of hA6, hat, p, _, _, _, rfl, rfl, SqT.of hpj, atI_nat (j := 0) rfl, _, _, rfl, ?_⟩
          refine ⟨_, rfl, _, rfl, _, rfl, a, _, _, _, rfl, rfl, SqT.of hA6, hat, p, _, _, _, rfl, rfl, SqT.of hpj, atI_nat (j := 1) rfl, _, _, rfl, rfl, _, rfl, _, rfl, a, _, _, _, rfl, rfl, SqT.of hA6, hat, p, _, _, _, rfl, rfl, SqT.of hpj, atI_nat (j := 2) rfl, _, _, rfl, rfl, _, rfl, ite2 (fun hf => ?_) (fun hf => ?_)⟩
          · have hft : fits js now k = true := hf
            -- key
            refine ⟨_, rfl, _, rfl, small8 (by simp), fun t1 nt1 => ⟨sa, t1, KInts (srt (dn c)), [.int (k : Nat)], rfl, rfl, (Ext.new (T := S.T) nt1).tup hks5, upd_same, ?_, fun H6 p6 e6 hp6 => ?_⟩⟩
            · have : (srt (dn c)).length = t := by rw [(srt_spec (dn c)).1.length_eq, List.length_map, hct]
              refine small8 ?_
              simp [KInts, this]
              omega
            have e56 : Ext S.T H5 H6 := (Ext.new nt1).trans e6
            have ekk : KInts (srt (dn c)) ++ [V.int (k : Nat)] = (srt (dn c) ++ [k]).map fun k : Nat => V.int (k : Int) := by simp [KInts]
            refine ⟨Nat, p6, srt (dn c) ++ [k], fun k : Nat => .int (k : Int), fun k : Nat => .int (k : Int), rfl, .inr (SqT.of (by rw [hp6, ekk])), fun _ _ => .int _, al_ints _, so_ints _, fun _ _ => by simp [PyData.depth], fun l2 nl2 => ⟨l2, _, rfl, .inl ⟨SqL.of upd_same, fun s2 ns2 => ?_⟩⟩⟩
            rw [srt_ints]
            have e67 : Ext S.T H6 (upd (upd H6 l2 (.lst (KInts (srt (srt (dn c) ++ [k]))))) s2 (.tup (KInts (srt (srt (dn c) ++ [k]))))) := by
              rw [srt_ints] at ns2
              exact (Ext.new nl2).trans (Ext.new ns2)
            have hs7 : upd (upd H6 l2 (.lst (KInts (srt (srt (dn c) ++ [k]))))) s2 (.tup (KInts (srt (srt (dn c) ++ [k])))) s2 = some (.tup (KInts (srt (srt (dn c) ++ [k])))) := upd_same
            generalize upd (upd H6 l2 (.lst (KInts (srt (srt (dn c) ++ [k]))))) s2 (.tup (KInts (srt (srt (dn c) ++ [k])))) = H7 at e67 hs7 ⊢
            have e57 := e56.trans e67
            refine ⟨_, rfl, _, rfl, _, rfl, a, _, _, _, rfl, rfl, SqT.of (e57.tup hA6), hat, p, _, _, _, rfl, rfl, SqT.of (e57.tup hpj), atI_nat (j := 1) rfl, _, _, rfl, rfl, w0, _, _, rfl, rfl, rfl, small8 (by simp), fun k3 nk3 => ?_⟩
            have e78 : Ext S.T H7 (upd H7 k3 (.tup [.ref s2, .int (stt js now k + lng js k), .bl (w0 || decide (stt js now k > lst js now (dn c)))])) := Ext.new nk3
            have hk8 : KeyAt (upd H7 k3 (.tup [.ref s2, .int (stt js now k + lng js k), .bl (w0 || decide (stt js now k > lst js now (dn c)))])) k3 (nxt js (srt (dn c), now, w0) k) := by
              refine ⟨s2, ?_, e78.tup hs7⟩
              rw [upd_same]
              unfold nxt
              rw [hls0]
            have e58 := e57.trans e78
            -- more[key] = layer[some, now, waits] + ((k, start),)
            refine ⟨_, rfl, _, rfl, _, rfl, _, rfl, small8 (by simp), fun k4 nk4 => ⟨d, k4, kOf (srt (dn c), now, w0), es, .ref va, rfl, rfl, ?_, ?_, ?_, kOf_depth _, hv, ?_⟩⟩
            · exact (e58.trans (Ext.new nk4)).dn hd5'
            · exact (ents_ok hes).to fun a xs q => (e58.trans (Ext.new nk4)).tk a xs (k25 a xs (k12 a xs q))
            · exact KeyAt.nk ⟨sa, upd_same, (e58.trans (Ext.new (T := S.T) nk4)).tup hks5⟩
            refine ⟨_, rfl, _, rfl, small8 (by simp), fun t5 nt5 => ⟨small8 (by simp), fun t6 nt6 => ?_⟩⟩
            have e89 : Ext S.T (upd H7 k3 (.tup [.ref s2, .int (stt js now k + lng js k), .bl (w0 || decide (stt js now k > lst js now (dn c)))])) _ := (Ext.new (o := .tup [.ref sa, .int now, .bl w0]) nk4).trans ((Ext.new (o := .tup [.int (k : Nat), .int (stt js now k)]) nt5).trans (Ext.new (o := .tup [.ref t5]) nt6))
            have e59 := e58.trans e89
            obtain ⟨ps, hps1, hps2⟩ := hpa
            have hva9 := e59.tup (k25 _ _ (k12 _ _ hps1))
            refine ⟨va, t6, ps.map V.ref, [.ref t5], rfl, rfl, hva9, upd_same, ?_, fun H8 v8 e8 hv8 => ?_⟩
            · have : ps.length = t := by rw [hps2.length, hct]
              refine small8 ?_
              simp [this]
              omega
            have e510 := e59.trans e8
            have hdm10 := e510.dn hdm5
            have hk10 := hk8.to (e89.trans e8).tk
            refine ⟨_, rfl, _, rfl, dm, k3, kOf (nxt js (srt (dn c), now, w0) k), em5, rfl, rfl, hdm10, ?_, hk10.nk, kOf_depth _, ?_, ?_⟩
            · exact (ents_ok hem5).to e510.tk
            · rw [sizeLine_eq]
              omega
            have k11 : TK H8 (upd H8 dm (DN P w dm (putN em5 (kOf (nxt js (srt (dn c), now, w0) k)) k3 (.ref v8)))) := fun a xs q => by
              rw [upd_ne (ne_of q hdm10 (by intro z; cases z))]
              exact q
            have e11 : ExtR S.T dm H8 (upd H8 dm (DN P w dm (putN em5 (kOf (nxt js (srt (dn c), now, w0) k)) k3 (.ref v8)))) := ExtR.rowD hdm10 (fun _ z => nomatch z)
            refine ⟨_, _, _, _, rfl, (er5.trans e510.toR).trans e11, upd_same, fun e' he' => ?_, fun b' hb' k' hk' hf' => ?_, fun k' hk' hf' => ?_, ?_⟩
            · rcases mem_put he' with hold | ⟨z1, z2, z3⟩
              · exact ((hem5 e' hold).to e510.tk).to k11
              · have hka : KeyAt H8 e'.2.1 (nxt js (srt (dn c), now, w0) k) := by
                  rcases z3 with z3 | ⟨x, hx, y1, y2⟩
                  · rw [z3]; exact hk10
                  · obtain ⟨c', now', w', _, _, _, g1, g2, _, _⟩ := (hem5 x hx).to e510.tk
                    have := kOf_inj (y1.symm.trans g1)
                    rw [this, ← y2]
                    exact g2
                have enx : nxt js (srt (dn c), now, w0) k = (srt (dn (c ++ [(k, stt js now k)])), stt js now k + lng js k, w0 || decide (stt js now k > lst js now (dn c))) := by
                  unfold nxt
                  refine Prod.ext ?_ (Prod.ext rfl ?_)
                  · show srt (srt (dn c) ++ [k]) = srt (dn (c ++ [(k, stt js now k)]))
                    refine srt_congr ?_
                    rw [show dn (c ++ [(k, stt js now k)]) = dn c ++ [k] by simp [dn]]
                    exact (srt_spec (dn c)).1.append_right _
                  · show (w0 || decide (stt js now k > lst js now (srt (dn c)))) = _
                    rw [hls0]
                rw [enx] at hka z1
                refine ⟨c ++ [(k, stt js now k)], _, _, v8, hpth.snoc (by rw [hlf]; exact hkm) hft, by rw [List.length_append, hct]; rfl, z1, hka.to k11, z2, ps ++ [t5], ?_, paired_snoc (paired_to (fun q1 q2 q => k11 _ _ (e510.tup (k25 _ _ (k12 _ _ q)))) hps2) ?_⟩
                · rw [List.map_append]
                  exact k11 _ _ hv8
                · exact k11 _ _ (e8.tup ((Ext.new (T := S.T) nt6).tup upd_same))
            · obtain ⟨x, hx, ex⟩ := List.mem_map.mp (hdone5 b' hb' k' hk' hf')
              rw [← ex]
              exact (keys_put _ _ _ _).1 x hx
            · rw [hta] at hk'
              rcases List.mem_append.mp hk' with hk' | hk'
              · obtain ⟨x, hx, ex⟩ := List.mem_map.mp (hj5 k' hk' hf')
                rw [← ex]
                exact (keys_put _ _ _ _).1 x hx
              · have : k' = k := by simpa using hk'
                subst this
                exact (keys_put _ _ _ _).2
            · have := length_put em5 (kOf (nxt js (srt (dn c), now, w0) k)) k3 (.ref v8)
              omega
          · refine ⟨em5, _, _, _, rfl, er5, hdm5, hem5, hdone5, fun k' hk' hf' => ?_, by omega⟩
            rw [hta] at hk'
            rcases List.mem_append.mp hk' with hk' | hk'
            · exact hj5 k' hk' hf'
            · have : k' = k := by simpa using hk'
              subst this
              exact absurd hf' hf
        · obtain ⟨em5, y9, y10, y11, rfl, er5, hdm5, hem5, hdone5, hj5, hel5⟩ := h
          rw [hkl, List.take_length] at hj5
          rw [hkl] at hel5
          refine ⟨em5, _, _, _, _, _, _, _, _, rfl, (er2.trans e24.toR).trans er5, hdm5, hem5, fun b' hb' k hk hf => ?_, by omega⟩
          rw [take_snoc hb] at hb'
          rcases List.mem_append.mp hb' with hb' | hb'
          · exact hdone5 b' hb' k hk hf
          · have : b' = b := by simpa using hb'
            subst this
            rw [hb0] at hk hf ⊢
            exact hj5 k (by rw [← hlf, ← hlf0]; exact hk) hf
      · obtain ⟨em, y4, y5, y6, y7, y8, y9, y10, y11, rfl, er2, hdm2, hem, hdone, hel⟩ := h
        rw [List.length_map, List.take_length] at hdone
        rw [List.length_map, hlss] at hel
        refine ⟨_, rfl, dm, em, _, _, _, _, _, _, _, _, _, _, rfl, er2.base (e1.trans x13) (e1.old _ ndm), hdm2, hem, fun c2 now2 w2 h2 hc2 => ?_, ?_⟩
        · rcases List.eq_nil_or_concat c2 with rfl | ⟨c, p, ec⟩
          · cases hc2
          · have ec' : c2 = c ++ [p] := by simpa using ec
            subst ec'
            obtain ⟨now, w0, h3, h4, h5, h6, h7, h8⟩ := h2.inv
            have hct : c.length = t := by
              rw [List.length_append, List.length_singleton] at hc2
              omega
            have hkey := hcm c now w0 h3 hct
            rw [← hbs, List.map_map] at hkey
            obtain ⟨b, hb, eb⟩ := List.mem_map.mp hkey
            have eb' : b.1.1 = kOf (srt (dn c), now, w0) := eb
            obtain ⟨hb1, _⟩ := hbk b hb
            have e2 : b.2 = (srt (dn c), now, w0) := kOf_inj (hb1.symm.trans eb')
            have hd2 := hdone b (pm.mem_iff.mpr hb) p.1 (by rw [e2, leftS_congr (fun k => srt_mem (k := k) (l := dn c))]; exact h4) (by rw [e2]; exact h5)
            have e3 : nxt js b.2 p.1 = (srt (dn (c ++ [p])), now2, w2) := by
              rw [e2]
              unfold nxt
              refine Prod.ext ?_ (Prod.ext h7.symm ?_)
              · show srt (srt (dn c) ++ [p.1]) = srt (dn (c ++ [p]))
                refine srt_congr ?_
                rw [show dn (c ++ [p]) = dn c ++ [p.1] by simp [dn]]
                exact (srt_spec (dn c)).1.append_right _
              · show (w0 || decide (stt js now p.1 > lst js now (srt (dn c)))) = w2
                rw [h8, lst_congr (fun k => srt_mem (k := k) (l := dn c))]
            rw [e3] at hd2
            exact hd2
        · rw [Nat.pow_succ]; omega
    · obtain ⟨d, es, y2, y3, y4, y5, y6, y7, y8, y9, y10, y11, rfl, e1, hd1, hes, hcm, hln⟩ := h
      obtain ⟨bs, hbs, hbk⟩ := ents_bs hes
      have hbv : bs.map (fun b => V.ref b.1.2.1) = es.map (fun e => V.ref e.2.1) := by rw [← hbs, List.map_map]; rfl
      have h7t : 7 ^ js.length ≤ 7 ^ 7 := Nat.pow_le_pow_right (by decide) (by omega)
      have hlb : bs.length = es.length := by rw [← hbs, List.length_map]
      refine ⟨_, rfl, d, es, rfl, hd1, fun l1 nl1 => ⟨_, l1, bs, fun b => .ref b.1.2.1, fun b => encP b.2, rfl, .inl ?_, fun b hb => ?_, PySem.W.AllAlike.of fun _ _ => encP_alike _ _, PySem.W.Sortable.tuples fun _ => ⟨_, _, rfl⟩, fun _ _ => encP_depth _, fun L nL => ⟨L, rfl, ⟨_, SqL.of upd_same⟩, fun D nD => ?_⟩⟩⟩
      · rw [hbv]; exact SqL.of upd_same
      · obtain ⟨_, hb2⟩ := hbk b hb
        exact KeyAt.dp (hb2.to (Ext.new (T := S.T) nl1).tk)
      have pm := List.mergeSort_perm bs (PySem.W.dataLe false fun b : NE × KP => encP b.2)
      generalize hss : bs.mergeSort (PySem.W.dataLe false fun b : NE × KP => encP b.2) = ss at pm nL nD ⊢
      have hlss : ss.length = es.length := by rw [pm.length_eq, hlb]
      have x12 : Ext S.T H1 (upd (upd H1 l1 (.lst (es.map fun e => V.ref e.2.1))) L (.lst (ss.map fun b => V.ref b.1.2.1))) := (Ext.new nl1).trans (Ext.new nL)
      have hLs : upd (upd H1 l1 (.lst (es.map fun e => V.ref e.2.1))) L (.lst (ss.map fun b => V.ref b.1.2.1)) L = some (.lst (ss.map fun b => V.ref b.1.2.1)) := upd_same
      refine lc_it (walk_list (K := K) (xs := ss.map fun b => V.ref b.1.2.1)) (fun i H2 => Ext S.T (upd (upd H1 l1 (.lst (es.map fun e => V.ref e.2.1))) L (.lst (ss.map fun b => V.ref b.1.2.1))) H2 ∧ ∃ (ts : List Addr) (fs : List NE), H2 D = some (.lst (ts.map V.ref)) ∧ Paired (fun u (e : NE) => H2 u = some (.tup [.ref e.2.1, e.2.2])) ts fs ∧ (∀ e ∈ fs, FinS H2 js e) ∧ (∀ b ∈ ss.take i, kFin (b.2.2.2, b.2.2.1) ∈ fs.map (·.1)) ∧ fs.length = i)
        ⟨Ext.new nD, [], [], upd_same, .nil, (fun _ h => nomatch h), (fun _ h => nomatch h), rfl⟩ (fun i H2 _ h => SqL.of (h.1.lst hLs)) (fun i x H2 H3 hi h hy => ?_) (fun H2 h => ?_)
      · obtain ⟨rfl, hx⟩ := hy
        obtain ⟨e2, ts, fs, hD, hpr, hfs, hdone, hfl⟩ := h
        rw [List.getElem?_map] at hx
        obtain ⟨b, hb, rfl⟩ := Option.map_eq_some_iff.mp hx
        have hbm := pm.mem_iff.mp (List.mem_of_getElem? hb)
        obtain ⟨hb1, hb2⟩ := hbk b hbm
        have hbe : b.1 ∈ es := by rw [← hbs]; exact List.mem_map.mpr ⟨b, hbm, rfl⟩
        obtain ⟨v, hv⟩ := at_of_key (es := es) (k := b.1.1) (List.mem_map.mpr ⟨b.1, hbe, rfl⟩)
        obtain ⟨e, he, ee1, ee2⟩ := at_mem hv
        obtain ⟨c, now, w0, va, hpth, hct, hek, _, hva, hpa⟩ := hes e he
        have hb0 : b.2 = (srt (dn c), now, w0) := kOf_inj (hb1.symm.trans (ee1.symm.trans hek))
        have hvv : v = .ref va := ee2.symm.trans hva
        subst hvv
        rw [hb1] at hv
        rw [hb0] at hb2 hv
        have e12 := x12.trans e2
        have hkb := hb2.to e12.tk
        obtain ⟨sa, hk1, hk2⟩ := id hkb
        refine ⟨rfl, _, rfl, _, _, _, _, rfl, rfl, SqT.of hk1, atI_nat (j := 2) rfl, _, rfl, _, _, _, _, rfl, rfl, SqT.of hk1, atI_nat (j := 1) rfl, small8 (by simp), fun kk nkk => ?_⟩
        refine ⟨_, rfl, _, rfl, d, b.1.2.1, kOf (srt (dn c), now, w0), es, .ref va, rfl, rfl, ?_, ?_, ?_, kOf_depth _, hv, small8 (by simp), fun tt ntt => ?_⟩
        · exact (e12.trans (Ext.new nkk)).dn hd1
        · exact (ents_ok hes).to (e12.trans (Ext.new (T := S.T) nkk)).tk
        · exact (hkb.to (Ext.new (T := S.T) nkk).tk).nk
        have e34 : Ext S.T H3 _ := (Ext.new (o := .tup [.bl w0, .int now]) nkk).trans (Ext.new (o := .tup [.ref kk, .ref va]) ntt)
        have hD4 := e34.lst hD
        refine ⟨_, hD4, ?_, (e2.trans e34).put nD, ts ++ [tt], fs ++ [(kFin (w0, now), kk, .ref va)], ?_, ?_, ?_, ?_, by rw [List.length_append, hfl]; rfl⟩
        · have htf := hpr.length
          have hi' : i < ss.length := by rw [List.length_map] at hi; exact hi
          rw [List.length_map, sizeLine_eq]
          omega
        · rw [upd_same, List.map_append]; rfl
        · refine paired_snoc (paired_to (fun u e q => TK.put hD4 _ _ (e34.tup q)) hpr) ?_
          exact TK.put hD4 _ _ upd_same
        · intro e' he'
          rcases List.mem_append.mp he' with he' | he'
          · exact ((hfs e' he').to e34.tk).to (TK.put hD4)
          · have : e' = (kFin (w0, now), kk, .ref va) := by simpa using he'
            subst this
            exact ⟨c, now, w0, va, hpth, hct, rfl, TK.put hD4 _ _ ((Ext.new (T := S.T) ntt).tup upd_same), rfl, (hpa.to e12.tk).to fun a xs q => TK.put hD4 _ _ (e34.tup q)⟩
        · intro b' hb'
          rw [take_snoc hb] at hb'
          rw [List.map_append]
          rcases List.mem_append.mp hb' with hb' | hb'
          · exact List.mem_append_left _ (hdone b' hb')
          · have : b' = b := by simpa using hb'
            subst this
            rw [hb0]
            exact List.mem_append_right _ (List.mem_singleton.mpr rfl)
      · obtain ⟨e2, ts, fs, hD, hpr, hfs, hdone, hfl⟩ := h
        rw [List.length_map, List.take_length] at hdone
        refine ⟨D, ts, fs, rfl, SqL.of hD, hpr, fins_ok hfs, fun p np => Qf _ p (putAll [] fs) ((e1.trans x12).trans (e2.trans (Ext.new np))) upd_same (fun e he => (fins_all hfs e he).to (Ext.new (T := S.T) np).tk) (fun c now w0 hc h0 => ?_) ?_⟩
        rotate_left
        · have h1 := length_putAll fs []
          have h2 : ss.length ≤ 7 ^ 7 := by omega
          rw [List.length_map] at hfl
          rw [List.length_nil] at h1
          omega
        have hkey := hcm c now w0 hc h0
        rw [← hbs, List.map_map] at hkey
        obtain ⟨b, hb, eb⟩ := List.mem_map.mp hkey
        have eb' : b.1.1 = kOf (srt (dn c), now, w0) := eb
        obtain ⟨hb1, _⟩ := hbk b hb
        have e3 : b.2 = (srt (dn c), now, w0) := kOf_inj (hb1.symm.trans eb')
        have h1 := hdone b (pm.mem_iff.mpr hb)
        rw [e3] at h1
        obtain ⟨x, hx, ex⟩ := List.mem_map.mp h1
        have ex' : x.1 = kFin (w0, now) := ex
        rw [← ex']
        exact (keys_putAll fs []).2 x hx
end
end K23
/-! The law. -/
namespace K23
open PySem PySem.Spec PyProof.Rows L2
section
variable {X : Cx} {T : List Addr}
def rSlX (T : List Addr) : V → Option Int → Option Int → Hp → VK → Prop := fun x lo hi H Q => ∃ a xs, x = .ref a ∧ H a = some (.tup xs) ∧ ∀ H' p ys, Ext T H H' → H' p = some (.tup ys) → (∀ y ∈ ys, y ∈ xs) → ys.length ≤ xs.length → Q (.ref p) H'
theorem sl_tupX : SlR X (rSlX T) := by
  intro pins s σ H x v vl vu lo hi sl Q I rx hs pl pu h
  obtain ⟨a, xs, rfl, ha, q⟩ := h
  refine sl_tupA pins s σ H _ v vl vu lo hi sl Q I rx hs pl pu ⟨a, xs, rfl, SqT.of ha, fun _ => q H a xs (Ext.refl T H) ha (fun _ h => h) (Nat.le_refl _), fun _ p np => q _ p _ (Ext.new np) upd_same (fun y hy => ?_) (cutV_length _ _ _)⟩
  exact List.mem_of_mem_drop (List.mem_of_mem_take hy)
end
theorem Ext.of_keep {T : List Addr} {H H' : Hp} (k : ∀ b o, H b = some o → H' b = some o) (old : ∀ b, H' b = none → H b = none) : Ext T H H' :=
  ⟨fun b o h _ => k b o h, fun tb P hP => by
    obtain ⟨ps, q, t⟩ := tb P hP
    exact ⟨ps, k _ _ q, t⟩, old⟩
abbrev KF := Bool × Int
def encF (p : KF) : PyData := .tuple [.bool p.1, .int p.2]
theorem encF_alike (p q : KF) : PySem.W.alike (encF p) (encF q) = true := by simp [encF, PySem.W.alike, PySem.W.alikeAll]
theorem encF_depth (p : KF) : (encF p).depth ≤ 8 := by simp [encF, PyData.depth, PyData.depthAll]
theorem encF_dp {K : PySem.W.Frag} {H : Hp} {a : Addr} {p : KF} (h : H a = some (.tup [.bl p.1, .int p.2])) : Dp K H (.ref a) (encF p) := .tup (SqT.of h) (.cons (.bl _) (.cons (.int _) .nil))
theorem shaped_encF (ps : List KF) : SeqAt.shaped (.list (ps.map encF)) = true := by
  have h1 : PyData.canLayAll0 (ps.map encF) = true := by
    induction ps with
    | nil => simp [PyData.canLayAll0]
    | cons p ps ih => simp [PyData.canLayAll0, PyData.canLay0, encF, ih] <;> exact ih
  have h2 : PyData.depthAll (ps.map encF) ≤ 1 := by
    induction ps with
    | nil => simp [PyData.depthAll]
    | cons p ps ih =>
      have := ih (by
        simp only [List.map_cons, PyData.canLayAll0, Bool.and_eq_true] at h1
        exact h1.2)
      simp only [List.map_cons, PyData.depthAll]
      have e : (encF p).depth = 1 := by simp [encF, PyData.depth, PyData.depthAll]
      rw [e]
      omega
  simp [SeqAt.shaped, PyData.canLay0, PyData.depth, h1]
  omega
theorem fins_bs {H : Hp} {js : List Job} : ∀ {es : List NE}, (∀ e ∈ es, FinS H js e) → ∃ bs : List (NE × KF), bs.map Prod.fst = es ∧ ∀ b ∈ bs, b.1.1 = kFin b.2 ∧ H b.1.2.1 = some (.tup [.bl b.2.1, .int b.2.2])
  | [], _ => ⟨[], rfl, fun _ h => nomatch h⟩
  | e :: es, h => by
    obtain ⟨bs, e1, e2⟩ := fins_bs fun x hx => h x (List.mem_cons_of_mem _ hx)
    obtain ⟨c, now, w, va, h1, h2, h3, h4, h5, h6⟩ := h e List.mem_cons_self
    refine ⟨(e, (w, now)) :: bs, by rw [List.map_cons, e1], fun b hb => ?_⟩
    rcases List.mem_cons.mp hb with z | z
    · subst z; exact ⟨h3, h4⟩
    · exact e2 b z
section
variable {P : Program} {w : World} {K : PySem.W.Frag} {mg : Str → Option Value} {base : Heap}
def spLaw (K : PySem.W.Frag) (T : List Addr) : Sp := fun vs H Q _ => ∃ (sc : Addr) (xs : List Int), vs = [.ref sc] ∧ SqL K H sc (xs.map V.int) ∧ Tb T H ∧ ∀ H', Q (.bl true) H'
theorem Fs.okLaw (S : Fs K mg base) {f : Addr} {fd : FuncData} (FL : Fun K "law" "law" sLaw f fd) {k : Nat} : FnOk P w K mg base CX0 (k + 5) f fd ["_law_script"] (spLaw K S.T) := by
  have g := S.g
  have GJ : FnOk P w K mg base CX0 (k + 4) S.jobs.a S.jobs.fd ["_law_row"] (spJobs K S.T) := S.okJobs
  have GA : FnOk P w K mg base CX0 (k + 4) S.all.a S.all.fd ["_law_jobs_here"] (spAll P w S.T) := S.okAll
  have GW : FnOk P w K mg base CX0 (k + 4) S.whole.a S.whole.fd ["jobs"] (spWhole S.T) := S.okWhole
  have GI : FnOk P w K mg base CX0 (k + 4) S.isst.a S.isst.fd ["_law_jobs_here", "_law_value"] (spIsSt S.T) := S.okIsSt
  have GE : FnOk P w K mg base CX0 (k + 4) S.alike.a S.alike.fd ["_law_found", "_law_due"] spAlike := S.okAlike
  have GN : FnOk P w K mg base CX0 (k + 4) S.waits.a S.waits.fd ["jobs"] (spWaits S.T) := S.okWaits
  have GT : FnOk P w K mg base CX0 (k + 4) S.taken.a S.taken.fd ["_law_row", "_law_many"] (spTaken K S.T) := S.okTaken
  have GS : FnOk P w K mg base CX0 (k + 4) S.shows.a S.shows.fd ["jobs", "value"] (spShows S.T) := S.okShows
  refine FL.ok scLaw (fun vs H Q E h => ?_) (fun cdv A outer s H vs Q E hr h => ?_)
  · obtain ⟨sc, xs, rfl, _⟩ := h; rfl
  · obtain ⟨sc, xs, rfl, hS, tb, Qf⟩ := h
    have hu : (cxOf CX0 P w K mg base ["_law_script", "_law_row", "_law_turn", "_law_jobs_here", "_law_some", "_law_found", "_law_due", "_law_base", "_law_at", "_law_values", "_law_value", "_law_key", "_law_job", "_law_pair"] "law" (defScope sLaw) f cdv A outer s H E).nox.A.units + 64 < cLine := hr.units
    refine ⟨_,
(pss_cons (ps_set (i := 1) scLaw.nd rfl (Or.inl rfl) (pe_lst (pa_cons (pv 0) (pa_cons pe_int (pa_cons pe_int (pa_cons pe_int pa_nil))))))
      (pss_cons (ps_for PassesOwn.never rfl (pi_range1 (by rfl) g.range (pa_cons pe_int pa_nil)) (pg_name (i := 2) scLaw.nd rfl (Or.inl rfl))
      (pss_cons (ps_set (i := 3) scLaw.nd rfl (Or.inl rfl) (pe_call GJ hr (by rfl) S.jobs.g S.jobs.F.kp S.jobs.b .nil pass0 (pa_cons (pv 1) pa_nil)))
      (pss_cons (ps_set (i := 4) scLaw.nd rfl (Or.inl rfl) (pe_call GA hr (by rfl) S.all.g S.all.F.kp S.all.b .nil pass0 (pa_cons (pv 3) pa_nil)))
      (C8.pss_cut (ps_set (i := 5) scLaw.nd rfl (Or.inl rfl) (pe_call GW hr (by rfl) S.whole.g S.whole.F.kp S.whole.b .nil pass0 (pa_cons (pv 3) pa_nil)))
      (C8.pss_cut (ps_if (PW.pt (pw_or (pt_cmpR op_ne (pe_cmp (pc_isN (pv 5))) (pe_cmpR (op_eqN hr) (pv 4) pe_newN (nomark _)) (nomark _)) (pw_or1 (PW.pt (pw_and (pt_cmp (pc_notN (pv 5))) (pw_and1 (pt_not (pt_val (pe_call GI hr (by rfl) S.isst.g S.isst.F.kp S.isst.b .nil pass0 (pa_cons (pv 3) (pa_cons (pv 5) pa_nil))))))))))) (pss_one (ps_ret pe_bl)) pss_nil)
      (C8.pss_cut (ps_set (i := 6) scLaw.nd rfl (Or.inl rfl) ((pe_and (pe_cmpR (op_neN hr) (pv 4) pe_newN (nomark _)) (pe_one (pe_cmpR (op_eqD hu) (pe_lc (own := [("_law_key", 11)]) rfl scLaw.nd (pi_list (pe_callB (cr_sortedDat hr) (by rfl) g.sorted (by decide +kernel) (pa_cons (pe_callTy (call_listN rfl) (by rfl) g.list (by decide +kernel) (pa_cons (pv 4) pa_nil)) pa_nil))) (blkOk_by (N := ["_law_script", "_law_row", "_law_turn", "_law_jobs_here", "_law_some", "_law_found", "_law_due", "_law_base", "_law_at", "_law_values", "_law_value", "_law_key", "_law_job", "_law_pair"]) (sc := defScope sLaw) (own := [("_law_key", 11)]) (by decide +kernel)) (fun _ _ _ _ _ => (pg_name (i := 11) scLaw.nd rfl (Or.inl rfl))) (fun _ _ _ _ _ => pts_one (pt_not (pt_val (pe_ix (r := rIxT K) ix_tup (pv 11) pe_int (fun _ _ => rfl))))) (fun _ _ _ _ _ => (pv 11))) (pe_lst pa_nil) (nomark _))))))
      (pss_cons (ps_if (pt_not (pt_val (pe_call GE hr (by rfl) S.alike.g S.alike.F.kp S.alike.b .nil pass0 (pa_cons (pe_call GN hr (by rfl) S.waits.g S.waits.F.kp S.waits.b .nil pass0 (pa_cons (pv 3) pa_nil)) (pa_cons (pv 6) pa_nil))))) (pss_one (ps_ret pe_bl)) pss_nil)
      (pss_cons (ps_set (i := 7) scLaw.nd rfl (Or.inl rfl) (pe_callTy call_tuple_of (by rfl) g.tuple (by decide +kernel) (pa_cons (pe_lc (own := [("_law_job", 12)]) rfl scLaw.nd (pi_tup (pv 3)) (blkOk_by (N := ["_law_script", "_law_row", "_law_turn", "_law_jobs_here", "_law_some", "_law_found", "_law_due", "_law_base", "_law_at", "_law_values", "_law_value", "_law_key", "_law_job", "_law_pair"]) (sc := defScope sLaw) (own := [("_law_job", 12)]) (by decide +kernel)) (fun _ _ _ _ _ => (pg_name (i := 12) scLaw.nd rfl (Or.inl rfl))) (fun _ _ _ _ _ => pts_nil) (fun _ _ _ _ _ => (pe_ix (r := rIxT K) ix_tup (pv 12) pe_int (fun _ _ => rfl)))) pa_nil)))
      (C8.pss_cut (ps_if (pt_cmpR (op_neN hr) (pv 4) pe_newN (nomark _)) (pss_one (ps_set (i := 7) scLaw.nd rfl (Or.inl rfl) (pe_callTy call_tuple_of (by rfl) g.tuple (by decide +kernel) (pa_cons (pe_lc (own := [("_law_pair", 13)]) rfl scLaw.nd (pi_list (pe_callB (cr_sortedDat hr) (by rfl) g.sorted (by decide +kernel) (pa_cons (pe_callTy call_list_of (by rfl) g.list (by decide +kernel) (pa_cons (pe_ix (ix_dn hr) (pv 4) (pe_ix ix_list (pe_callB (cr_sortedDat hr) (by rfl) g.sorted (by decide +kernel) (pa_cons (pe_callTy (call_listN rfl) (by rfl) g.list (by decide +kernel) (pa_cons (pv 4) pa_nil)) pa_nil)) pe_int (fun _ _ => rfl)) (fun _ _ => rfl)) pa_nil)) pa_nil))) (blkOk_by (N := ["_law_script", "_law_row", "_law_turn", "_law_jobs_here", "_law_some", "_law_found", "_law_due", "_law_base", "_law_at", "_law_values", "_law_value", "_law_key", "_law_job", "_law_pair"]) (sc := defScope sLaw) (own := [("_law_pair", 13)]) (by decide +kernel)) (fun _ _ _ _ _ => (pg_name (i := 13) scLaw.nd rfl (Or.inl rfl))) (fun _ _ _ _ _ => pts_nil) (fun _ _ _ _ _ => (pe_ix (r := rIxT K) ix_tup (pv 13) pe_int (fun _ _ => rfl)))) pa_nil)))) pss_nil)
      (pss_cons (ps_par (i := 8) (j := 9) (by rfl) scLaw.nd rfl rfl (by decide) rfl rfl (pa_cons (pe_call GT hr (by rfl) S.taken.g S.taken.F.kp S.taken.b .nil pass0 (pa_cons (pv 1) (pa_cons (pe_callB call_len_seq (by rfl) g.len (by decide +kernel) (pa_cons (pv 3) pa_nil)) pa_nil))) (pa_cons (pe_lst (pa_cons (pv 7) (pa_cons (pe_callTy call_list_of (by rfl) g.list (by decide +kernel) (pa_cons (pv 7) pa_nil)) (pa_cons (pe_slice (sl_tupX (T := S.T)) (pv 7) (po_some pe_int) po_none) (pa_cons (pe_op (op_catX (T := S.T)) (pv 7) (pe_tup (pa_cons pe_int pa_nil))) (pa_cons pe_non (pa_cons pe_int (pa_cons pe_dnewK pa_nil)))))))) pa_nil)) (by rfl))
      (pss_cons (ps_for PassesOwn.never rfl (pi_list (pe_lst (pa_cons (pe_op op_add (pe_ix ix_tup (pv 7) (pv 8) (fun _ _ => rfl)) pe_int) (pa_cons (pe_op op_sub (pe_ix ix_tup (pv 7) (pv 8) (fun _ _ => rfl)) pe_int) (pa_cons pe_bl (pa_cons pe_non (pa_cons pe_str (pa_cons (pe_op op_pow pe_int pe_int) pa_nil)))))))) (pg_name (i := 10) scLaw.nd rfl (Or.inl rfl))
      (pss_one (ps_expr (pe_bm PySem.F.plainAttrs_list PySem.F.slot_list_append PySem.F.type_list_append mt_append (pv 9) (pa_cons (pe_op (op_catX (T := S.T)) (pe_op (op_catX (T := S.T)) (pe_slice (sl_tupX (T := S.T)) (pv 7) po_none (po_some (pv 8))) (pe_tup (pa_cons (pv 10) pa_nil))) (pe_slice (sl_tupX (T := S.T)) (pv 7) (po_some (pe_op op_add (pv 8) pe_int)) po_none)) pa_nil)))))
      (pss_one (ps_for PassesOwn.never rfl (pi_list (pv 9)) (pg_name (i := 10) scLaw.nd rfl (Or.inl rfl))
      (pss_one (ps_if (pt_not (pt_val (pe_call GE hr (by rfl) S.alike.g S.alike.F.kp S.alike.b .nil pass0 (pa_cons (pe_call GS hr (by rfl) S.shows.g S.shows.F.fun.kp S.shows.b .nil pass0 (pa_cons (pv 3) (pa_cons (pv 10) pa_nil))) (pa_cons (pe_call GI hr (by rfl) S.isst.g S.isst.F.kp S.isst.b .nil pass0 (pa_cons (pv 3) (pa_cons (pv 10) pa_nil))) pa_nil))))) (pss_one (ps_ret pe_bl)) pss_nil)))))))))))))))
      (pss_one (ps_ret pe_bl))))
      , ?_⟩
    refine ⟨_, rfl, small8 (by simp), fun r nr => ⟨2, rfl, by omega, by omega, ?_⟩⟩
    refine for_range (n := 2) (fun t σ H1 => ∃ (y2 y3 y4 y5 y6 y7 y8 y9 y10 y11 y12 y13 : Option V), σ = [some (.ref sc), some (.ref r), y2, y3, y4, y5, y6, y7, y8, y9, y10, y11, y12, y13] ∧ RowAt K H1 r sc xs ∧ Tb S.T H1)
      ⟨none, none, none, none, none, none, none, none, none, none, none, none, rfl, ⟨0, 3223, 0, by omega, by omega, by omega, by omega, upd_same, (Ext.new (T := S.T) nr).sqL hS⟩, (Ext.new nr).tabs tb⟩ (fun t σ H1 ht h => ?_) (fun σ H1 h => ?_)
    · obtain ⟨y2, y3, y4, y5, y6, y7, y8, y9, y10, y11, y12, y13, rfl, hR1, tb1⟩ := h
      refine ⟨_, rfl, r, sc, xs, rfl, hR1, fun H2 a js hR2 e12 hJ2 hok => ?_⟩
      refine ⟨_, rfl, a, js, rfl, hJ2, hok, fun H3 d es e23 hd hes hcm hesl => ?_⟩
      have hR3 := hR2.ext e23
      have hJ3 := hJ2.to e23
      have tb3 : Tb S.T H3 := e23.tabs (e12.tabs tb1)
      obtain ⟨as, hA, hpj⟩ := id hJ3
      have hl : as.length = js.length := hpj.length
      have hlm : (as.map V.ref).length = js.length := by rw [List.length_map, hl]
      have hn7 := hok.2.1
      have hn1 := hok.1
      have hlen := hok.len
      have hff : es = [] ↔ ¬ ∃ c, Full js true c := by
        constructor
        · rintro rfl ⟨c, now, w0, hp, hc, _⟩
          have := hcm c now w0 hp hc
          cases this
        · intro hno
          cases es with
          | nil => rfl
          | cons e es =>
            obtain ⟨c, now, w0, va, h1, h2, _⟩ := hes e List.mem_cons_self
            exact absurd ⟨c, now, w0, h1, h2, .inl rfl⟩ hno
      -- found
      refine ⟨fun σ H4 => ∃ (v : V) (y6 y7 y8 y9 y10 y11 y12 y13 : Option V), σ = [some (.ref sc), some (.ref r), some (.int (0 + (t : Nat))), some (.ref a), some (.ref d), some v, y6, y7, y8, y9, y10, y11, y12, y13] ∧ Ext S.T H3 H4 ∧
          ((v = .non ∧ ¬ ∃ c, Full js true c) ∨ ∃ p c zs, v = .ref p ∧ Full js true c ∧ RowOf js c zs ∧ H4 p = some (.tup (zs.map V.int))), ?_, fun σ4 H4 h4 => ?_⟩
      · exact ⟨_, rfl, a, js, rfl, hJ3, hok, tb3, fun H4 e4 hno => ⟨_, _, _, _, _, _, _, _, _, rfl, e4, .inl ⟨rfl, hno⟩⟩, fun H4 p c zs e4 hF hRo hp => ⟨_, _, _, _, _, _, _, _, _, rfl, e4, .inr ⟨p, c, zs, rfl, hF, hRo, hp⟩⟩⟩
      -- if (found is None) != (some == {}) or ..
      refine ⟨fun σ H5 => ∃ (y5 y6 y7 y8 y9 y10 y11 y12 y13 : Option V), σ = [some (.ref sc), some (.ref r), some (.int (0 + (t : Nat))), some (.ref a), some (.ref d), y5, y6, y7, y8, y9, y10, y11, y12, y13] ∧ Ext S.T H3 H5, ?_, fun σ5 H5 h5 => ?_⟩
      · obtain ⟨v, y6, y7, y8, y9, y10, y11, y12, y13, rfl, e4, hv⟩ := h4
        rcases hv with ⟨rfl, hno⟩ | ⟨p, c, zs, rfl, hF, hRo, hp⟩
        · have := hff.mpr hno
          subst this
          exact ⟨_, rfl, _, rfl, fun q nq => ⟨d, q, [], rfl, rfl, (e4.trans (Ext.new nq)).dn hd, upd_same, rfl, false, rfl, iteF ⟨_, rfl, false, rfl, iteF ⟨_, _, _, _, _, _, _, _, _, rfl, e4.trans (Ext.new nq)⟩⟩⟩⟩
        · have hne : es ≠ [] := fun z => (hff.mp z) ⟨c, hF⟩
          have hie : es.isEmpty = false := by cases es with
            | nil => exact absurd rfl hne
            | cons e es => rfl
          refine ⟨_, rfl, _, rfl, fun q nq => ⟨d, q, es, rfl, rfl, (e4.trans (Ext.new nq)).dn hd, upd_same, rfl, false, ?_, iteF ⟨_, rfl, true, rfl, iteT ⟨_, rfl, _, rfl, a, js, .ref p, some (zs.map V.int), rfl, hJ3.to (e4.trans (Ext.new nq)), hok, .tup ((Ext.new (T := S.T) nq).tup hp) (fun x hx => ?_), fun H6 e6 => ⟨true, ?_, iteF ⟨_, _, _, _, _, _, _, _, _, rfl, (e4.trans (Ext.new nq)).trans e6⟩⟩⟩⟩⟩⟩
          · rw [hie]; rfl
          · obtain ⟨i, _, rfl⟩ := List.mem_map.mp hx
            rfl
          · rw [judge_found hlen hF hRo]
      -- due
      refine ⟨fun σ H6 => ∃ (b : Bool) (y5 y7 y8 y9 y10 y11 y12 y13 : Option V), σ = [some (.ref sc), some (.ref r), some (.int (0 + (t : Nat))), some (.ref a), some (.ref d), y5, some (.bl b), y7, y8, y9, y10, y11, y12, y13] ∧ Ext S.T H3 H6 ∧
          (b = true ↔ (¬ ∃ c, Full js false c) ∧ ∃ c, Full js true c), ?_, fun σ6 H6 h6 => ?_⟩
      · obtain ⟨y5, y6, y7, y8, y9, y10, y11, y12, y13, rfl, e5⟩ := h5
        refine ⟨_, rfl, fun q nq => ⟨d, q, es, rfl, rfl, (e5.trans (Ext.new nq)).dn hd, upd_same, _, rfl, ?_⟩⟩
        cases hie : es.isEmpty with
        | true =>
          have hes0 : es = [] := by simpa using hie
          refine iteF ⟨false, _, _, _, _, _, _, _, _, rfl, e5.trans (Ext.new nq), ?_⟩
          simp only [Bool.false_eq_true, false_iff]
          exact fun z => (hff.mp hes0) z.2
        | false =>
          have hne : es ≠ [] := by intro z; rw [z] at hie; cases hie
          have hfull : ∃ c, Full js true c := by
            by_cases z : ∃ c, Full js true c
            · exact z
            · exact absurd (hff.mpr z) hne
          have e6 : Ext S.T H3 (upd H5 q (DN P w q [])) := e5.trans (Ext.new nq)
          obtain ⟨bs, hbs, hbk⟩ := fins_bs hes
          have hbv : bs.map (fun b => V.ref b.1.2.1) = es.map (fun e => V.ref e.2.1) := by rw [← hbs, List.map_map]; rfl
          refine iteT ⟨_, rfl, d, es, rfl, e6.dn hd, fun l1 nl1 => ⟨_, l1, bs, fun b => .ref b.1.2.1, fun b => encF b.2, rfl, .inl ?_, fun b hb => ?_, PySem.W.AllAlike.of fun _ _ => encF_alike _ _, PySem.W.Sortable.tuples fun _ => ⟨_, _, rfl⟩, fun _ _ => encF_depth _, fun L nL => ⟨L, rfl, ⟨_, SqL.of upd_same⟩, fun D nD => ?_⟩⟩⟩
          · rw [hbv]; exact SqL.of upd_same
          · obtain ⟨_, hb2⟩ := hbk b hb
            exact encF_dp ((e6.trans (Ext.new (T := S.T) nl1)).tup hb2)
          have pm := List.mergeSort_perm bs (PySem.W.dataLe false fun b : NE × KF => encF b.2)
          generalize hss : bs.mergeSort (PySem.W.dataLe false fun b : NE × KF => encF b.2) = ss at pm nL nD ⊢
          have hlss : ss.length = es.length := by rw [pm.length_eq, ← hbs, List.length_map]
          have e7 : Ext S.T (upd H5 q (DN P w q [])) (upd (upd (upd H5 q (DN P w q [])) l1 (.lst (es.map fun e => V.ref e.2.1))) L (.lst (ss.map fun b => V.ref b.1.2.1))) := (Ext.new nl1).trans (Ext.new nL)
          have hLs : upd (upd (upd H5 q (DN P w q [])) l1 (.lst (es.map fun e => V.ref e.2.1))) L (.lst (ss.map fun b => V.ref b.1.2.1)) L = some (.lst (ss.map fun b => V.ref b.1.2.1)) := upd_same
          have e37 := e6.trans e7
          have hkey : ∀ b ∈ ss, H3 b.1.2.1 = some (.tup [.bl b.2.1, .int b.2.2]) := fun b hb => (hbk b (pm.mem_iff.mp hb)).2
          refine lc_it (walk_list (K := K) (xs := ss.map fun b => V.ref b.1.2.1)) (fun i H8 => Ext S.T H3 H8 ∧ H8 L = some (.lst (ss.map fun b => V.ref b.1.2.1)) ∧ H8 D = some (.lst (((ss.take i).filter fun b => !b.2.1).map fun b => V.ref b.1.2.1))) ⟨e37.trans (Ext.new nD), (Ext.new (T := S.T) nD).lst hLs, upd_same⟩ (fun i H8 _ h => SqL.of h.2.1) (fun i x H8 H9 hi h hy => ?_) (fun H8 h => ?_)
          · obtain ⟨rfl, hx⟩ := hy
            obtain ⟨e8, hL8, hD8⟩ := h
            rw [List.getElem?_map] at hx
            obtain ⟨b, hb, rfl⟩ := Option.map_eq_some_iff.mp hx
            have hi' : i < ss.length := (List.getElem?_eq_some_iff.mp hb).1
            have hk8 := e8.tup (hkey b (List.mem_of_getElem? hb))
            have hDL : L ≠ D := ne_of_none hLs nD
            refine ⟨rfl, _, rfl, _, _, _, _, rfl, rfl, SqT.of hk8, atI_nat (j := 0) rfl, b.2.1, rfl, ?_⟩
            cases hw : b.2.1 with
            | true =>
              refine iteF ⟨e8, hL8, ?_⟩
              rw [take_snoc hb, filt_snoc, hw]
              simpa using hD8
            | false =>
              refine iteT ⟨_, rfl, _, hD8, ?_, e8.put (e37.old _ nD), ?_, ?_⟩
              · have h1 := List.length_filter_le (fun b : NE × KF => !b.2.1) (ss.take i)
                rw [List.length_take] at h1
                rw [List.length_map, sizeLine_eq]
                omega
              · rw [upd_ne hDL]; exact hL8
              · rw [upd_same, take_snoc hb, filt_snoc, hw]
                simp
          obtain ⟨e8, hL8, hD8⟩ := h
          rw [List.length_map, List.take_length] at hD8
          refine ⟨Nat.zero_le _, fun E0 nE0 => ?_⟩
          have hDE : D ≠ E0 := ne_of_none hD8 nE0
          refine ⟨.list ((((ss.filter fun b => !b.2.1).map Prod.snd).map encF)), .list [], .lst (SqL.of (by rw [upd_ne hDE]; exact hD8)) ?_, .lst (SqL.of upd_same) .nil, shaped_encF _, shaped_encF [], ?_⟩
          · have gen : ∀ l : List (NE × KF), (∀ b ∈ l, b ∈ ss) → DpAll K (upd H8 E0 (.lst [])) (l.map fun b => V.ref b.1.2.1) ((l.map Prod.snd).map encF) := by
              intro l
              induction l with
              | nil => intro _; exact .nil
              | cons b l ih => exact fun hm => .cons (encF_dp ((e8.trans (Ext.new (T := S.T) nE0)).tup (hkey b (hm b List.mem_cons_self)))) (ih fun x hx => hm x (List.mem_cons_of_mem _ hx))
            exact gen _ fun b hb => (List.mem_filter.mp hb).1
          rw [eqv_nil, map_empty, map_empty, filt_empty]
          refine ⟨_, _, _, _, _, _, _, _, _, rfl, e8.trans (Ext.new nE0), ?_⟩
          rw [List.all_eq_true]
          constructor
          · refine fun hall => ⟨?_, hfull⟩
            rintro ⟨c, now, w0, hp, hc, hw⟩
            have hw0 : w0 = false := by
              rcases hw with z | z
              · cases z
              · exact z
            subst hw0
            obtain ⟨e, he, ee⟩ := List.mem_map.mp (hcm c now false hp hc)
            rw [← hbs] at he
            obtain ⟨b, hb, rfl⟩ := List.mem_map.mp he
            have h1 := kFin_inj ((hbk b hb).1.symm.trans ee)
            have h2 := hall b (pm.mem_iff.mpr hb)
            rw [h1] at h2
            cases h2
          · rintro ⟨hno, _⟩ b hb
            have hbm := pm.mem_iff.mp hb
            have hbe : b.1 ∈ es := by rw [← hbs]; exact List.mem_map.mpr ⟨b, hbm, rfl⟩
            obtain ⟨c, now, w0, va, h1, h2, h3, _⟩ := hes b.1 hbe
            have h4 := kFin_inj ((hbk b hbm).1.symm.trans h3)
            cases hw : b.2.1 with
            | true => rfl
            | false =>
              rw [h4] at hw
              have hw' : w0 = false := hw
              exact absurd ⟨c, now, w0, h1, h2, .inr hw'⟩ hno
      -- if not alike(needs_waiting(jobs), due)
      obtain ⟨dueB, y5, y7, y8, y9, y10, y11, y12, y13, rfl, e6, hdue⟩ := h6
      refine ⟨_, rfl, a, js, rfl, hJ3.to e6, hok, e6.tabs tb3, fun H7 b e7 hb => ⟨_, rfl, b, dueB, rfl, fun H8 keep old => ⟨true, ?_, iteF ?_⟩⟩⟩
      · have : b = dueB := by
          rw [Bool.eq_iff_iff, hb, hdue]
        rw [this]
        simp
      have e38 : Ext S.T H3 H8 := (e6.trans e7).trans (Ext.of_keep keep old)
      -- base
      refine ⟨_, rfl, a, rfl, ⟨_, SqT.of (e38.tup hA)⟩, fun D nD => ?_⟩
      refine lc_it (walk_tup (K := K) (xs := as.map V.ref)) (fun i H9 => Ext S.T H8 H9 ∧ H9 D = some (.lst ((js.take i).map fun j => V.int j.1))) ⟨Ext.new nD, upd_same⟩ (fun i H9 _ h => SqT.of (h.1.tup (e38.tup hA))) (fun i x H9 H10 hi h hy => ?_) (fun H9 h => ?_)
      · obtain ⟨rfl, hx⟩ := hy
        obtain ⟨e9, hD⟩ := h
        rw [List.getElem?_map] at hx
        obtain ⟨q, hq, rfl⟩ := Option.map_eq_some_iff.mp hx
        obtain ⟨j, hj, hqj⟩ := paired_get' hpj hq
        refine ⟨rfl, _, rfl, q, _, _, _, rfl, rfl, SqT.of ((e38.trans e9).tup hqj), atI_nat (j := 0) rfl, ⟨_, hD, small7 ?_, e9.put nD, ?_⟩⟩
        · rw [List.length_map, List.length_take]; omega
        · rw [upd_same, take_snoc hj, List.map_append]; rfl
      obtain ⟨e9, hD⟩ := h
      rw [hlm, List.take_length] at hD
      refine ⟨D, _, rfl, .inl ⟨SqL.of hD, fun p0 np0 => ?_⟩⟩
      have e310 : Ext S.T H3 (upd H9 p0 (.tup (js.map fun j => V.int j.1))) := (e38.trans e9).trans (Ext.new np0)
      -- if some != {}: base = ..
      refine ⟨fun σ H10 => ∃ (p : Addr) (zs : List Int) (y5 y6 y8 y9 y10 y11 y12 y13 : Option V), σ = [some (.ref sc), some (.ref r), some (.int (0 + (t : Nat))), some (.ref a), some (.ref d), y5, y6, some (.ref p), y8, y9, y10, y11, y12, y13] ∧ Ext S.T H3 H10 ∧ H10 p = some (.tup (zs.map V.int)) ∧ zs.length = js.length, ?_, fun σ10 H10 h10 => ?_⟩
      · refine ⟨_, rfl, fun q nq => ⟨d, q, es, rfl, rfl, (e310.trans (Ext.new nq)).dn hd, upd_same, _, rfl, ?_⟩⟩
        cases hie : es.isEmpty with
        | true =>
          refine iteF ⟨p0, js.map fun j => j.1, _, _, _, _, _, _, _, _, rfl, e310.trans (Ext.new nq), (Ext.new (T := S.T) nq).tup ?_, by rw [List.length_map]⟩
          rw [upd_same, List.map_map]
          rfl
        | false =>
          have hne : es ≠ [] := by intro z; rw [z] at hie; cases hie
          have e11 := e310.trans (Ext.new (T := S.T) (o := DN P w q []) nq)
          obtain ⟨bs, hbs, hbk⟩ := fins_bs hes
          have hbv : bs.map (fun b => V.ref b.1.2.1) = es.map (fun e => V.ref e.2.1) := by rw [← hbs, List.map_map]; rfl
          refine iteT ⟨_, rfl, _, rfl, d, es, rfl, e11.dn hd, fun l1 nl1 => ⟨_, l1, bs, fun b => .ref b.1.2.1, fun b => encF b.2, rfl, .inl ?_, fun b hb => ?_, PySem.W.AllAlike.of fun _ _ => encF_alike _ _, PySem.W.Sortable.tuples fun _ => ⟨_, _, rfl⟩, fun _ _ => encF_depth _, fun L nL => ?_⟩⟩
          · rw [hbv]; exact SqL.of upd_same
          · obtain ⟨_, hb2⟩ := hbk b hb
            exact encF_dp ((e11.trans (Ext.new (T := S.T) nl1)).tup hb2)
          have pm := List.mergeSort_perm bs (PySem.W.dataLe false fun b : NE × KF => encF b.2)
          generalize hss : bs.mergeSort (PySem.W.dataLe false fun b : NE × KF => encF b.2) = ss at pm nL ⊢
          have hlss : ss.length = es.length := by rw [pm.length_eq, ← hbs, List.length_map]
          have hs0 : 0 < ss.length := by rw [hlss]; exact List.length_pos_iff.mpr hne
          have hbm := pm.mem_iff.mp (List.getElem_mem hs0)
          generalize hb0 : ss[0] = b at hbm
          obtain ⟨hb1, hb2⟩ := hbk b hbm
          have hbe : b.1 ∈ es := by rw [← hbs]; exact List.mem_map.mpr ⟨b, hbm, rfl⟩
          obtain ⟨v, hv⟩ := at_of_key (es := es) (k := b.1.1) (List.mem_map.mpr ⟨b.1, hbe, rfl⟩)
          obtain ⟨e, he, ee1, ee2⟩ := at_mem hv
          obtain ⟨c, now, w0, va, hpth, hct, hek, _, hva, ps, hps1, hps2⟩ := hes e he
          have hvv : v = .ref va := ee2.symm.trans hva
          subst hvv
          rw [hb1] at hv
          have e12 := (e11.trans (Ext.new (T := S.T) (o := .lst (es.map fun e : NE => V.ref e.2.1)) nl1)).trans (Ext.new (T := S.T) (o := .lst (ss.map fun b : NE × KF => V.ref b.1.2.1)) nL)
          have hpl : ps.length = c.length := hps2.length
          refine ⟨L, _, 0, .ref b.1.2.1, rfl, rfl, SqL.of upd_same, atI_nat (j := 0) (by rw [List.getElem?_map, List.getElem?_eq_getElem hs0, hb0]; rfl), d, b.1.2.1, kFin b.2, es, .ref va, rfl, rfl, e12.dn hd, (fins_ok hes).to e12.tk, kFin_nk (e12.tup hb2), kFin_depth _, hv, va, ps.map V.ref, rfl, .inr (SqT.of (e12.tup hps1)), fun l2 nl2 => ?_⟩
          have e13 := e12.trans (Ext.new (T := S.T) (o := .lst (ps.map V.ref)) nl2)
          have hz13 := zip_at (paired_to (S := PairAtV _) (fun _ _ q => e13.tup q) hps2)
          refine ⟨_, l2, ps.zip c, fun b => .ref b.1, fun b => .tuple [.int (b.2.1 : Nat), .int b.2.2], rfl, .inl (by rw [(zip_vals hpl).1]; exact SqL.of upd_same), fun b hb => dp_ii (hz13 b hb), al_ii, so_ii, fun _ _ => de_ii, fun L2 nL2 => ⟨L2, rfl, ⟨_, SqL.of upd_same⟩, fun D2 nD2 => ?_⟩⟩
          obtain ⟨zz, ezz, pz, _⟩ := ms_ii (ps.zip c) (fun b => (b.2.1 : Nat)) (fun b => b.2.2)
          rw [ezz] at nD2 ⊢
          have hLz : ∀ {Hx : Hp}, Hx L2 = none → upd Hx L2 (.lst (zz.map fun b : Addr × Nat × Int => V.ref b.1)) L2 = some (.lst (zz.map fun b : Addr × Nat × Int => V.ref b.1)) := fun _ => upd_same
          have hL9 := hLz nL2
          have e14 := e13.trans (Ext.new (T := S.T) (o := .lst (zz.map fun b : Addr × Nat × Int => V.ref b.1)) nL2)
          have hz14 : ∀ b ∈ zz, _ := fun b hb => (Ext.new (T := S.T) (o := .lst (zz.map fun b : Addr × Nat × Int => V.ref b.1)) nL2).tup (hz13 b (pz.mem_iff.mp hb))
          have hzl : zz.length = js.length := by
            rw [pz.length_eq, List.length_zip, hpl, hct]
            exact Nat.min_self _
          refine lc_it (walk_list (K := K) (xs := zz.map fun b => V.ref b.1)) (fun i H8 => Ext S.T H3 H8 ∧ H8 L2 = some (.lst (zz.map fun b => V.ref b.1)) ∧ (∀ b ∈ zz, H8 b.1 = some (.tup [.int (b.2.1 : Nat), .int b.2.2])) ∧ H8 D2 = some (.lst ((zz.take i).map fun b => V.int b.2.2))) ⟨e14.trans (Ext.new nD2), (Ext.new (T := S.T) nD2).lst hL9, fun b hb => (Ext.new (T := S.T) nD2).tup (hz14 b hb), upd_same⟩ (fun i H8 _ h => SqL.of h.2.1) (fun i x H8 H9 hi h hy => ?_) (fun H8 h => ?_)
          · obtain ⟨rfl, hx⟩ := hy
            obtain ⟨e8, hL8, hz8, hD8⟩ := h
            rw [List.getElem?_map] at hx
            obtain ⟨b, hb, rfl⟩ := Option.map_eq_some_iff.mp hx
            have hk8 := hz8 b (List.mem_of_getElem? hb)
            have hDL : L2 ≠ D2 := ne_of_none hL9 nD2
            refine ⟨rfl, _, rfl, _, _, _, _, rfl, rfl, SqT.of hk8, atI_nat (j := 1) rfl, ⟨_, hD8, small7 ?_, e8.put (e14.old _ nD2), ?_, fun b' hb' => ?_, ?_⟩⟩
            · rw [List.length_map, List.length_take]; omega
            · rw [upd_ne hDL]; exact hL8
            · rw [upd_ne (ne_of (hz8 b' hb') hD8 (by intro z; cases z))]; exact hz8 b' hb'
            · rw [upd_same, take_snoc hb, List.map_append]; rfl
          · obtain ⟨e8, hL8, hz8, hD8⟩ := h
            rw [List.length_map, List.take_length] at hD8
            refine ⟨D2, _, rfl, .inl ⟨SqL.of hD8, fun p np => ⟨p, zz.map fun b => b.2.2, _, _, _, _, _, _, _, _, rfl, e8.trans (Ext.new np), ?_, by rw [List.length_map, hzl]⟩⟩⟩
            rw [upd_same, List.map_map]
            rfl
      -- at, values
      obtain ⟨p, zs, y5, y6, y8, y9, y10, y11, y12, y13, rfl, e10, hp10, hzl⟩ := h10
      have hJ10 := hJ3.to e10
      refine ⟨_, rfl, _, rfl, a, _, rfl, .inr (SqT.of (e10.tup hA)), r, sc, xs, (js.length : Nat), by rw [hlm]; rfl, hR3.ext e10, by omega, by omega, fun H11 z hR11 e11 z0 z1 => ?_⟩
      obtain ⟨n, rfl⟩ := Int.eq_ofNat_of_zero_le z0
      have hnz : n < zs.length := by omega
      have hrow : ∃ ys, H10 r = some (.lst ys) := by
        obtain ⟨_, _, _, _, _, _, _, d, _⟩ := hR3.ext e10
        exact ⟨_, d⟩
      obtain ⟨yr, hrow⟩ := hrow
      have hp11 := e11.tup hrow hp10
      have hJ11 : JobsAt H11 a js := by
        obtain ⟨as', h1, h2⟩ := hJ10
        exact ⟨as', e11.tup hrow h1, paired_to (fun _ _ q => e11.tup hrow q) h2⟩
      have tb11 : Tb S.T H11 := e11.tabs (e10.tabs tb3)
      have hflat : ∀ y ∈ zs.map V.int, flat y = true := by
        intro y hy
        obtain ⟨i, _, rfl⟩ := List.mem_map.mp hy
        rfl
      have hz7 : (zs.map V.int).length ≤ 7 := by rw [List.length_map]; omega
      refine ⟨_, rfl, _, rfl, p, _, rfl, .inr (SqT.of hp11), fun la nla => ?_⟩
      have ea : Ext S.T H11 (upd H11 la (.lst (zs.map V.int))) := Ext.new nla
      have hla : upd H11 la (.lst (zs.map V.int)) la = some (.lst (zs.map V.int)) := upd_same
      refine ⟨_, rfl, 1, rfl, p, _, rfl, ea.tup hp11, fun H12 s1 ys1 e12 hs1 hm1 hl1 => ?_⟩
      have ea2 := ea.trans e12
      refine ⟨_, rfl, small8 (by simp), fun t0 nt0 => ⟨p, t0, _, _, rfl, rfl, (ea2.trans (Ext.new nt0)).tup hp11, upd_same, ?_, fun H13 s2 e13 hs2 => ?_⟩⟩
      · refine small8 ?_
        rw [List.length_map] at hz7
        simp
        omega
      have e1213 := (Ext.new (T := S.T) nt0).trans e13
      refine fun dk ndk => ⟨small8 (by simp), fun vl nvl => ⟨_, _, rfl, ?_⟩⟩
      have e1b : Ext S.T H13 (upd H13 dk (.dK [])) := Ext.new ndk
      have eb : Ext S.T H11 (upd H13 dk (.dK [])) := (ea2.trans e1213).trans e1b
      have hvs : ∀ v ∈ [V.ref p, .ref la, .ref s1, .ref s2, .non, .int 5, .ref dk], ∃ r, ArgV (upd H13 dk (.dK [])) v r := by
        intro v hv
        simp only [List.mem_cons, List.not_mem_nil, or_false] at hv
        rcases hv with rfl | rfl | rfl | rfl | rfl | rfl | rfl
        · exact ⟨_, .tup (eb.tup hp11) hflat⟩
        · exact ⟨_, .lst (((e12.trans e1213).trans e1b).lst hla)⟩
        · exact ⟨_, .tup ((e1213.trans e1b).tup hs1) fun y hy => hflat y (hm1 y hy)⟩
        · refine ⟨_, .tup (e1b.tup hs2) fun y hy => ?_⟩
          rcases List.mem_append.mp hy with hy | hy
          · exact hflat y hy
          · have : y = .int 0 := by simpa using hy
            rw [this]; rfl
        · exact ⟨_, .non⟩
        · exact ⟨_, .int 5⟩
        · exact ⟨_, .dK upd_same⟩
      generalize hvd : [V.ref p, .ref la, .ref s1, .ref s2, .non, .int 5, .ref dk] = vs at hvs
      have hvsl : vs.length = 7 := by rw [← hvd]; rfl
      have hvl : upd (upd H13 dk (.dK [])) vl (.lst vs) vl = some (.lst vs) := upd_same
      have eb2 : Ext S.T (upd H13 dk (.dK [])) (upd (upd H13 dk (.dK [])) vl (.lst vs)) := Ext.new nvl
      have hat : atI (zs.map V.int) (n : Nat) = some (.int zs[n]) := atI_nat (by rw [List.getElem?_map, List.getElem?_eq_getElem hnz]; rfl)
      -- the other rows
      refine ⟨_, rfl, _, rfl, p, _, _, _, rfl, rfl, SqT.of ((eb.trans eb2).tup hp11), hat, _, _, rfl, rfl, _, rfl, _, rfl, p, _, _, _, rfl, rfl, SqT.of ((eb.trans eb2).tup hp11), hat, _, _, rfl, rfl, _, _, rfl, rfl, ⟨by decide, by decide, by decide⟩, small8 (by simp), fun ll nll => ?_⟩
      have ebx : Ext S.T (upd H13 dk (.dK [])) _ := eb2.trans (Ext.new (T := S.T) (o := .lst [.int (zs[n] + 1), .int (zs[n] - 1), .bl true, .non, .str "1", .int (10 ^ (25 : Int).toNat)]) nll)
      have hvll : vl ≠ ll := ne_of_none hvl nll
      refine ⟨ll, rfl, ⟨_, SqL.of upd_same⟩, for_list (xs := [.int (zs[n] + 1), .int (zs[n] - 1), .bl true, .non, .str "1", .int (10 ^ (25 : Int).toNat)]) (fun i σ H => ∃ (ws : List V) (y10 y11 y12 y13 : Option V), σ = [some (.ref sc), some (.ref r), some (.int (0 + (t : Nat))), some (.ref a), some (.ref d), y5, y6, some (.ref p), some (.int (n : Nat)), some (.ref vl), y10, y11, y12, y13] ∧ Ext S.T (upd H13 dk (.dK [])) H ∧ H vl = some (.lst (vs ++ ws)) ∧ ws.length = i ∧
          (∀ v ∈ ws, ∃ q ys, v = .ref q ∧ H q = some (.tup ys) ∧ ∀ y ∈ ys, flat y = true) ∧ H ll = some (.lst [.int (zs[n] + 1), .int (zs[n] - 1), .bl true, .non, .str "1", .int (10 ^ (25 : Int).toNat)]))
        ⟨[], _, _, _, _, rfl, ebx, ?_, rfl, (fun _ h => nomatch h), upd_same⟩ (fun i σ H _ h => ?_) (fun i x σ H14 hx h => ?_) (fun σ H14 h => ?_)⟩
      · rw [List.append_nil, upd_ne hvll]; exact hvl
      · obtain ⟨_, _, _, _, _, _, _, _, _, _, h⟩ := h
        exact SqL.of h
      · obtain ⟨ws, y10, y11, y12, y13, rfl, e14, hv14, hwl, hws, hl14⟩ := h
        have hfx : flat x = true := by
          have := List.mem_of_getElem? hx
          simp only [List.mem_cons, List.not_mem_nil, or_false] at this
          rcases this with rfl | rfl | rfl | rfl | rfl | rfl <;> first | rfl | decide +kernel
        have hi6 : i < 6 := (List.getElem?_eq_some_iff.mp hx).1
        have hp14 := (eb.trans e14).tup hp11
        refine ⟨_, rfl, .inl ⟨rfl, _, SqL.of hv14⟩, _, rfl, _, rfl, (n : Nat), rfl, p, _, rfl, hp14, fun H15 q1 u1 e15 hq1 hu1 hl1' => ?_⟩
        refine ⟨_, rfl, small8 (by simp), fun t1 nt1 => ⟨q1, t1, _, _, rfl, rfl, (Ext.new (T := S.T) nt1).tup hq1, upd_same, ?_, fun H16 q2 e16 hq2 => ?_⟩⟩
        · refine small8 ?_
          simp
          omega
        have e1516 := (Ext.new (T := S.T) nt1).trans e16
        have e1416 := e15.trans e1516
        refine ⟨_, rfl, _, rfl, _, _, rfl, rfl, _, rfl, p, _, rfl, e1416.tup hp14, fun H17 q3 u3 e17 hq3 hu3 hl3' => ?_⟩
        refine ⟨q2, q3, _, _, rfl, rfl, e17.tup hq2, hq3, ?_, fun H18 q4 e18 hq4 => ?_⟩
        · refine small8 ?_
          simp
          omega
        have e1418 := (e1416.trans e17).trans e18
        have hv18 := e1418.lst hv14
        refine ⟨vl, _, _, rfl, rfl, hv18, ?_, ?_⟩
        · rw [List.length_append, hvsl, sizeLine_eq]; omega
        refine ⟨ws ++ [.ref q4], _, _, _, _, rfl, (e14.trans e1418).put nvl, by rw [upd_same, List.append_assoc], by rw [List.length_append, hwl]; rfl, fun v hv => ?_, ?_⟩
        · rcases List.mem_append.mp hv with hv | hv
          · obtain ⟨q, ys, rfl, hq, hf⟩ := hws v hv
            exact ⟨q, ys, rfl, TK.put hv18 _ _ (e1418.tup hq), hf⟩
          · have : v = .ref q4 := by simpa using hv
            subst this
            refine ⟨q4, _, rfl, TK.put hv18 _ _ hq4, fun y hy => ?_⟩
            rcases List.mem_append.mp hy with hy | hy
            · rcases List.mem_append.mp hy with hy | hy
              · exact hflat y (hu1 y hy)
              · have : y = x := by simpa using hy
                rw [this]; exact hfx
            · exact hflat y (hu3 y hy)
        · rw [upd_ne (Ne.symm hvll)]; exact e1418.lst hl14
      · obtain ⟨ws, y10, y11, y12, y13, rfl, e14, hv14, hwl, hws, hl14⟩ := h
        have hargs : ∀ v ∈ vs ++ ws, ∃ r, ArgV H14 v r := fun v hv => by
          rcases List.mem_append.mp hv with hv | hv
          · obtain ⟨r, h⟩ := hvs v hv
            exact ⟨r, h.to e14⟩
          · obtain ⟨q, ys, rfl, hq, hf⟩ := hws v hv
            exact ⟨_, .tup hq hf⟩
        have e1114 := eb.trans e14
        refine ⟨_, rfl, vl, rfl, ⟨_, SqL.of hv14⟩, for_list (xs := vs ++ ws) (fun i σ H => ∃ (y10 y11 y12 y13 : Option V), σ = [some (.ref sc), some (.ref r), some (.int (0 + (t : Nat))), some (.ref a), some (.ref d), y5, y6, some (.ref p), some (.int (n : Nat)), some (.ref vl), y10, y11, y12, y13] ∧ Ext S.T H14 H)
          ⟨_, _, _, _, rfl, Ext.refl _ _⟩ (fun i σ H _ h => ?_) (fun i x σ H15 hx h => ?_) (fun σ H15 h => ?_)⟩
        · obtain ⟨_, _, _, _, _, h⟩ := h
          exact SqL.of (h.lst hv14)
        · obtain ⟨y10, y11, y12, y13, rfl, e15⟩ := h
          obtain ⟨rr, hrr⟩ := hargs x (List.mem_of_getElem? hx)
          have e1115 := e1114.trans e15
          refine ⟨_, rfl, _, rfl, a, js, x, rr, rfl, hJ11.to e1115, hok, hrr.to e15, e1115.tabs tb11, fun H16 e16 => ⟨_, rfl, _, rfl, a, js, x, rr, rfl, hJ11.to (e1115.trans e16), hok, (hrr.to e15).to e16, fun H17 e17 => ⟨_, _, rfl, fun H18 keep old => ⟨true, ?_, iteF ?_⟩⟩⟩⟩
          · simp
          · exact ⟨_, _, _, _, rfl, ((e15.trans e16).trans e17).trans (Ext.of_keep keep old)⟩
        · obtain ⟨y10, y11, y12, y13, rfl, e15⟩ := h
          exact ⟨_, _, _, _, _, _, _, _, _, _, _, _, rfl, hR11.ext (e1114.trans e15), (e1114.trans e15).tabs tb11⟩
    · exact Qf _
end
end K23
/-! The walk with tables; what the top has written. -/
namespace K23
open PySem PySem.Spec PyProof.Rows L2
theorem walkT {l : PySem.W.OpenLaw} {n k : Nat} {q : Program} {loose : List Str} {XP : (Str → Option Value) → Heap → Prop} {YP : World → Heap → Prop} {d : DefRec} {K : Params → PySem.W.Frag} {x : Str}
    (hn : l.most = some n) (hn2 : n ≤ sizeLine) (hdf : d.params.defaults = []) (hr : Room k callerA) (hY : ∀ (w : World) (h : Heap), YP w h → (K w.params).In h)
    (F : ∀ (w : World) (mg : Str → Option Value) (fa : Addr) (h : Heap), (K w.params).In h → h.Ns mainGlobals mg → mg d.name = some (.ref fa) →
      (∀ (y : Str) (e : DefRec) (c P : Addr), (recsOf q).find? (fun e => e.name == y) = some e → PySem.W.tabIn (K w.params) y = some (c, P) → PySem.W.CodeHd h c P ∧ h.get? P = some ({ cls := .none, data := .fields #[] })) → LamX.LawAtS l w (K w.params) CX0 k n x mg fa h) :
    PySem.W.WalkO q loose XP YP l.row.toRowW d [] (fun f vs => PySem.call f vs) := by
  refine Att.attach_callB hn hdf fun w s₀ s₁ mg mb fa o pm cd doc a vs ns G Y ho hd hcd hmg hobj hints hlen hbits hg => ?_
  have KX := hY w _ Y
  obtain ⟨fd, cs, sp, hT, nT, C, hb, hsp, hF⟩ := F w mg fa _ KX G.T.g hmg fun y e c P h1 h2 => PySem.W.tab_of G.T KX h1 h2
  exact LamX.law_callTs KX G.T.g G.T.b G.T.builtins G.T.nolimit hg hT nT C G.T.bmain hobj hints (Nat.le_trans hlen hn2) hr hF hb (fun H hH hS => hsp H a ns hlen hbits hH hS) fun H e s' z => z
theorem tri_nil : TriplesOk (#[] : Array Value).toList := by first | exact trivial | exact .nil | (simp [TriplesOk])
theorem tabX {base : Heap} {mg : Str → Option Value} {c P : Addr} (t : LamX.TabB base mg c P) : GxR.TabB base mg c P := ⟨t.code, t.bm, t.gP⟩
theorem gn_mk {K : PySem.W.Frag} {h : Heap} {mg : Str → Option Value} (X : K.In h) (G : h.Ns mainGlobals mg) {tk_time : Tok} {tk_lng : Tok} {tk_long : Tok}
    (z_isi : PySem.W.nsIn K mainGlobals "isinstance" = some none) (z_int : PySem.W.nsIn K mainGlobals "int" = some none) (z_bool : PySem.W.nsIn K mainGlobals "bool" = some none) (z_str : PySem.W.nsIn K mainGlobals "str" = some none) (z_tuple : PySem.W.nsIn K mainGlobals "tuple" = some none) (z_list : PySem.W.nsIn K mainGlobals "list" = some none) (z_dict : PySem.W.nsIn K mainGlobals "dict" = some none) (z_len : PySem.W.nsIn K mainGlobals "len" = some none) (z_range : PySem.W.nsIn K mainGlobals "range" = some none) (z_sorted : PySem.W.nsIn K mainGlobals "sorted" = some none) (z_max : PySem.W.nsIn K mainGlobals "max" = some none) (z_min : PySem.W.nsIn K mainGlobals "min" = some none) (z_all : PySem.W.nsIn K mainGlobals "all" = some none) (z_enum : PySem.W.nsIn K mainGlobals "enumerate" = some none) (v_time : PySem.W.nsIn K mainGlobals "MOST_TIME" = some (some (.int 100 tk_time))) (v_lng : PySem.W.nsIn K mainGlobals "MOST_LENGTH" = some (some (.int 20 tk_lng))) (v_long : PySem.W.nsIn K mainGlobals "MOST_LONG" = some (some (.int 7 tk_long))) : Gn mg :=
  ⟨PySem.W.mg_none_of X G z_isi, PySem.W.mg_none_of X G z_int, PySem.W.mg_none_of X G z_bool, PySem.W.mg_none_of X G z_str, PySem.W.mg_none_of X G z_tuple, PySem.W.mg_none_of X G z_list, PySem.W.mg_none_of X G z_dict, PySem.W.mg_none_of X G z_len, PySem.W.mg_none_of X G z_range, PySem.W.mg_none_of X G z_sorted, PySem.W.mg_none_of X G z_max, PySem.W.mg_none_of X G z_min, PySem.W.mg_none_of X G z_all, PySem.W.mg_none_of X G z_enum, ⟨_, PySem.W.mg_of X G v_time⟩, ⟨_, PySem.W.mg_of X G v_lng⟩, ⟨_, PySem.W.mg_of X G v_long⟩⟩
theorem all_mk {l : PySem.W.OpenLaw} {w : World} {K : PySem.W.Frag} {h : Heap} {mg : Str → Option Value} {fa : Addr} (X : K.In h) (G : h.Ns mainGlobals mg) (hfa : mg "law" = some (.ref fa)) (g : Gn mg)
    {f0 : Addr} {od0 an0 : Option Addr} {sl0 : Array (Option Value)} {oc0 kV0 dc0 pm0 ct0 : Value}
    {cd0 : Value}
    {f1 : Addr} {od1 an1 : Option Addr} {sl1 : Array (Option Value)} {oc1 kV1 dc1 pm1 ct1 : Value}
    {cd1 : Value}
    {f2 : Addr} {od2 an2 : Option Addr} {sl2 : Array (Option Value)} {oc2 kV2 dc2 pm2 ct2 : Value}
    {cd2 : Value}
    {f3 : Addr} {od3 an3 : Option Addr} {sl3 : Array (Option Value)} {oc3 kV3 dc3 pm3 ct3 : Value}
    {c3 P3 : Addr}
    {f4 : Addr} {od4 an4 : Option Addr} {sl4 : Array (Option Value)} {oc4 kV4 dc4 pm4 ct4 : Value}
    {c4 P4 : Addr}
    {f5 : Addr} {od5 an5 : Option Addr} {sl5 : Array (Option Value)} {oc5 kV5 dc5 pm5 ct5 : Value}
    {cd5 : Value}
    {f6 : Addr} {od6 an6 : Option Addr} {sl6 : Array (Option Value)} {oc6 kV6 dc6 pm6 ct6 : Value}
    {c6 P6 : Addr}
    {f7 : Addr} {od7 an7 : Option Addr} {sl7 : Array (Option Value)} {oc7 kV7 dc7 pm7 ct7 : Value}
    {cd7 : Value}
    {f8 : Addr} {od8 an8 : Option Addr} {sl8 : Array (Option Value)} {oc8 kV8 dc8 pm8 ct8 : Value}
    {cd8 : Value}
    {f9 : Addr} {od9 an9 : Option Addr} {sl9 : Array (Option Value)} {oc9 kV9 dc9 pm9 ct9 : Value}
    {cd9 : Value}
    {f10 : Addr} {od10 an10 : Option Addr} {sl10 : Array (Option Value)} {oc10 kV10 dc10 pm10 ct10 : Value}
    {cd10 : Value}
    {f11 : Addr} {od11 an11 : Option Addr} {sl11 : Array (Option Value)} {oc11 kV11 dc11 pm11 ct11 : Value}
    {cd11 : Value}
    {f12 : Addr} {od12 an12 : Option Addr} {sl12 : Array (Option Value)} {oc12 kV12 dc12 pm12 ct12 : Value}
    {cd12 : Value}
    {f13 : Addr} {od13 an13 : Option Addr} {sl13 : Array (Option Value)} {oc13 kV13 dc13 pm13 ct13 : Value}
    {cd13 : Value}
    {f14 : Addr} {od14 an14 : Option Addr} {sl14 : Array (Option Value)} {oc14 kV14 dc14 pm14 ct14 : Value}
    {cd14 : Value}
    (a0 : PySem.W.nsIn K mainGlobals "is_in" = some (some (.ref f0))) (l0 : K.lookup f0 = some ⟨oc0, od0, .func (PySem.W.fnOf "is_in" "is_in" (defArgs sIsIn) (defBody sIsIn) (defScope sIsIn) .none kV0 dc0 pm0 an0 cd0 ct0), sl0⟩) (x0 : PySem.W.codeIn K cd0 "is_in" = true) (k0 : PySem.W.keepIn K (.ref f0) = true)
    (a1 : PySem.W.nsIn K mainGlobals "is_long" = some (some (.ref f1))) (l1 : K.lookup f1 = some ⟨oc1, od1, .func (PySem.W.fnOf "is_long" "is_long" (defArgs sIsLong) (defBody sIsLong) (defScope sIsLong) .none kV1 dc1 pm1 an1 cd1 ct1), sl1⟩) (x1 : PySem.W.codeIn K cd1 "is_long" = true) (k1 : PySem.W.keepIn K (.ref f1) = true)
    (a2 : PySem.W.nsIn K mainGlobals "need_long" = some (some (.ref f2))) (l2 : K.lookup f2 = some ⟨oc2, od2, .func (PySem.W.fnOf "need_long" "need_long" (defArgs sNeed) (defBody sNeed) (defScope sNeed) .none kV2 dc2 pm2 an2 cd2 ct2), sl2⟩) (x2 : PySem.W.codeIn K cd2 "need_long" = true) (k2 : PySem.W.keepIn K (.ref f2) = true)
    (a3 : PySem.W.nsIn K mainGlobals "is_start_row" = some (some (.ref f3))) (l3 : K.lookup f3 = some ⟨oc3, od3, .func (PySem.W.fnOf "is_start_row" "is_start_row" (defArgs sRow) (defBody sRow) (defScope sRow) .none kV3 dc3 pm3 an3 (.ref c3) ct3), sl3⟩) (x3 : PySem.W.codeIn K (.ref c3) "is_start_row" = true) (k3 : PySem.W.keepIn K (.ref f3) = true)
    (t3 : PySem.W.CodeHd h c3 P3 ∧ h.get? P3 = some ({ cls := .none, data := .fields #[] })) (n3 : K.lookup P3 = none)
    (a4 : PySem.W.nsIn K mainGlobals "search" = some (some (.ref f4))) (l4 : K.lookup f4 = some ⟨oc4, od4, .func (PySem.W.fnOf "search" "search" (defArgs sSearch) (defBody sSearch) (defScope sSearch) .none kV4 dc4 pm4 an4 (.ref c4) ct4), sl4⟩) (x4 : PySem.W.codeIn K (.ref c4) "search" = true) (k4 : PySem.W.keepIn K (.ref f4) = true)
    (t4 : PySem.W.CodeHd h c4 P4 ∧ h.get? P4 = some ({ cls := .none, data := .fields #[] })) (n4 : K.lookup P4 = none)
    (a5 : PySem.W.nsIn K mainGlobals "whole_starts" = some (some (.ref f5))) (l5 : K.lookup f5 = some ⟨oc5, od5, .func (PySem.W.fnOf "whole_starts" "whole_starts" (defArgs sWhole) (defBody sWhole) (defScope sWhole) .none kV5 dc5 pm5 an5 cd5 ct5), sl5⟩) (x5 : PySem.W.codeIn K cd5 "whole_starts" = true) (k5 : PySem.W.keepIn K (.ref f5) = true)
    (a6 : PySem.W.nsIn K mainGlobals "shows_whole_starts" = some (some (.ref f6))) (l6 : K.lookup f6 = some ⟨oc6, od6, .func (PySem.W.fnOf "shows_whole_starts" "shows_whole_starts" (defArgs sShows) (defBody sShows) (defScope sShows) .none kV6 dc6 pm6 an6 (.ref c6) ct6), sl6⟩) (x6 : PySem.W.codeIn K (.ref c6) "shows_whole_starts" = true) (k6 : PySem.W.keepIn K (.ref f6) = true)
    (t6 : PySem.W.CodeHd h c6 P6 ∧ h.get? P6 = some ({ cls := .none, data := .fields #[] })) (n6 : K.lookup P6 = none)
    (a7 : PySem.W.nsIn K mainGlobals "needs_waiting" = some (some (.ref f7))) (l7 : K.lookup f7 = some ⟨oc7, od7, .func (PySem.W.fnOf "needs_waiting" "needs_waiting" (defArgs sWaits) (defBody sWaits) (defScope sWaits) .none kV7 dc7 pm7 an7 cd7 ct7), sl7⟩) (x7 : PySem.W.codeIn K cd7 "needs_waiting" = true) (k7 : PySem.W.keepIn K (.ref f7) = true)
    (a8 : PySem.W.nsIn K mainGlobals "_law_taken" = some (some (.ref f8))) (l8 : K.lookup f8 = some ⟨oc8, od8, .func (PySem.W.fnOf "_law_taken" "_law_taken" (defArgs sTaken) (defBody sTaken) (defScope sTaken) .none kV8 dc8 pm8 an8 cd8 ct8), sl8⟩) (x8 : PySem.W.codeIn K cd8 "_law_taken" = true) (k8 : PySem.W.keepIn K (.ref f8) = true)
    (a9 : PySem.W.nsIn K mainGlobals "_law_pick" = some (some (.ref f9))) (l9 : K.lookup f9 = some ⟨oc9, od9, .func (PySem.W.fnOf "_law_pick" "_law_pick" (defArgs sPick) (defBody sPick) (defScope sPick) .none kV9 dc9 pm9 an9 cd9 ct9), sl9⟩) (x9 : PySem.W.codeIn K cd9 "_law_pick" = true) (k9 : PySem.W.keepIn K (.ref f9) = true)
    (a10 : PySem.W.nsIn K mainGlobals "_law_alike" = some (some (.ref f10))) (l10 : K.lookup f10 = some ⟨oc10, od10, .func (PySem.W.fnOf "_law_alike" "_law_alike" (defArgs sAlike) (defBody sAlike) (defScope sAlike) .none kV10 dc10 pm10 an10 cd10 ct10), sl10⟩) (x10 : PySem.W.codeIn K cd10 "_law_alike" = true) (k10 : PySem.W.keepIn K (.ref f10) = true)
    (a11 : PySem.W.nsIn K mainGlobals "_law_jobs" = some (some (.ref f11))) (l11 : K.lookup f11 = some ⟨oc11, od11, .func (PySem.W.fnOf "_law_jobs" "_law_jobs" (defArgs sJobs) (defBody sJobs) (defScope sJobs) .none kV11 dc11 pm11 an11 cd11 ct11), sl11⟩) (x11 : PySem.W.codeIn K cd11 "_law_jobs" = true) (k11 : PySem.W.keepIn K (.ref f11) = true)
    (a12 : PySem.W.nsIn K mainGlobals "_law_all" = some (some (.ref f12))) (l12 : K.lookup f12 = some ⟨oc12, od12, .func (PySem.W.fnOf "_law_all" "_law_all" (defArgs sAll) (defBody sAll) (defScope sAll) .none kV12 dc12 pm12 an12 cd12 ct12), sl12⟩) (x12 : PySem.W.codeIn K cd12 "_law_all" = true) (k12 : PySem.W.keepIn K (.ref f12) = true)
    (a13 : PySem.W.nsIn K mainGlobals "_law_is_starts" = some (some (.ref f13))) (l13 : K.lookup f13 = some ⟨oc13, od13, .func (PySem.W.fnOf "_law_is_starts" "_law_is_starts" (defArgs sIsSt) (defBody sIsSt) (defScope sIsSt) .none kV13 dc13 pm13 an13 cd13 ct13), sl13⟩) (x13 : PySem.W.codeIn K cd13 "_law_is_starts" = true) (k13 : PySem.W.keepIn K (.ref f13) = true)
    (a14 : PySem.W.nsIn K mainGlobals "law" = some (some (.ref f14))) (l14 : K.lookup f14 = some ⟨oc14, od14, .func (PySem.W.fnOf "law" "law" (defArgs sLaw) (defBody sLaw) (defScope sLaw) .none kV14 dc14 pm14 an14 cd14 ct14), sl14⟩) (x14 : PySem.W.codeIn K cd14 "law" = true) (k14 : PySem.W.keepIn K (.ref f14) = true) :
    LamX.LawAtS l w K CX0 5 63 "_law_script" mg fa h := by
  have e := hfa.symm.trans (PySem.W.mg_of X G a14)
  cases e
  have F0 := fun_mk (st := sIsIn) l0 x0 k0
  have b0 := F0.binds (ps := ["value", "least", "most"]) fun _ _ _ _ _ _ us hl => match us, hl with | [_, _, _], _ => rfl
  have F1 := fun_mk (st := sIsLong) l1 x1 k1
  have b1 := F1.binds (ps := ["job"]) fun _ _ _ _ _ _ us hl => match us, hl with | [_], _ => rfl
  have F2 := fun_mk (st := sNeed) l2 x2 k2
  have b2 := F2.binds (ps := ["jobs"]) fun _ _ _ _ _ _ us hl => match us, hl with | [_], _ => rfl
  have F3 : FunT K "is_start_row" "is_start_row" sRow f3 c3 _ := ⟨⟨_, _, _, _, _, _, _, _, rfl, l3, x3⟩, k3⟩
  have b3 := F3.fun.binds (ps := ["value", "many"]) fun _ _ _ _ _ _ us hl => match us, hl with | [_, _], _ => rfl
  have F4 : FunT K "search" "search" sSearch f4 c4 _ := ⟨⟨_, _, _, _, _, _, _, _, rfl, l4, x4⟩, k4⟩
  have b4 := F4.fun.binds (ps := ["jobs", "may_wait"]) fun _ _ _ _ _ _ us hl => match us, hl with | [_, _], _ => rfl
  have F5 := fun_mk (st := sWhole) l5 x5 k5
  have b5 := F5.binds (ps := ["jobs"]) fun _ _ _ _ _ _ us hl => match us, hl with | [_], _ => rfl
  have F6 : FunT K "shows_whole_starts" "shows_whole_starts" sShows f6 c6 _ := ⟨⟨_, _, _, _, _, _, _, _, rfl, l6, x6⟩, k6⟩
  have b6 := F6.fun.binds (ps := ["jobs", "value"]) fun _ _ _ _ _ _ us hl => match us, hl with | [_, _], _ => rfl
  have F7 := fun_mk (st := sWaits) l7 x7 k7
  have b7 := F7.binds (ps := ["jobs"]) fun _ _ _ _ _ _ us hl => match us, hl with | [_], _ => rfl
  have F8 := fun_mk (st := sTaken) l8 x8 k8
  have b8 := F8.binds (ps := ["_law_row", "_law_many"]) fun _ _ _ _ _ _ us hl => match us, hl with | [_, _], _ => rfl
  have F9 := fun_mk (st := sPick) l9 x9 k9
  have b9 := F9.binds (ps := ["_law_row", "_law_things"]) fun _ _ _ _ _ _ us hl => match us, hl with | [_, _], _ => rfl
  have F10 := fun_mk (st := sAlike) l10 x10 k10
  have b10 := F10.binds (ps := ["_law_found", "_law_due"]) fun _ _ _ _ _ _ us hl => match us, hl with | [_, _], _ => rfl
  have F11 := fun_mk (st := sJobs) l11 x11 k11
  have b11 := F11.binds (ps := ["_law_row"]) fun _ _ _ _ _ _ us hl => match us, hl with | [_], _ => rfl
  have F12 := fun_mk (st := sAll) l12 x12 k12
  have b12 := F12.binds (ps := ["_law_jobs_here"]) fun _ _ _ _ _ _ us hl => match us, hl with | [_], _ => rfl
  have F13 := fun_mk (st := sIsSt) l13 x13 k13
  have b13 := F13.binds (ps := ["_law_jobs_here", "_law_value"]) fun _ _ _ _ _ _ us hl => match us, hl with | [_, _], _ => rfl
  have FL := fun_mk (st := sLaw) l14 x14 k14
  refine ⟨PySem.W.fnOf "law" "law" (defArgs sLaw) (defBody sLaw) (defScope sLaw) .none kV14 dc14 pm14 an14 cd14 ct14, [(c3, P3), (c4, P4), (c6, P6)], spLaw K [P3, P4, P6], ?_, ?_, ?_, fun s v => .of_eq rfl, fun H a ns hl _ hH hS => ⟨a, ns, rfl, hS, fun P hP => ?_, fun _ => rfl⟩, fun base kb nb hB => ?_⟩
  · intro p hp
    simp only [List.mem_cons, List.not_mem_nil, or_false] at hp
    rcases hp with rfl | rfl | rfl
    · exact t3.2
    · exact t4.2
    · exact t6.2
  · intro p hp
    simp only [List.mem_cons, List.not_mem_nil, or_false] at hp
    rcases hp with rfl | rfl | rfl
    · exact n3
    · exact n4
    · exact n6
  · intro p hp
    simp only [List.mem_cons, List.not_mem_nil, or_false] at hp
    rcases hp with rfl | rfl | rfl
    · exact t3.1
    · exact t4.1
    · exact t6.1
  · have : ∀ p ∈ [(c3, P3), (c4, P4), (c6, P6)], GxR.TabG H p.2 := fun p hp => ⟨#[], hH p hp, tri_nil⟩
    simp only [List.mem_cons, List.not_mem_nil, or_false] at hP
    rcases hP with e | e | e
    · rw [e]; exact this (c3, P3) (by simp)
    · rw [e]; exact this (c4, P4) (by simp)
    · rw [e]; exact this (c6, P6) (by simp)
  · obtain ⟨S, hS⟩ : ∃ S : Fs K mg base, S.T = [P3, P4, P6] := ⟨{ g := g, isin := ⟨f0, _, F0, b0, PySem.W.mg_of X G a0⟩, long := ⟨f1, _, F1, b1, PySem.W.mg_of X G a1⟩, need := ⟨f2, _, F2, b2, PySem.W.mg_of X G a2⟩, row := ⟨f3, c3, P3, _, F3, b3, PySem.W.mg_of X G a3, tabX (hB (c3, P3) (by simp))⟩, search := ⟨f4, c4, P4, _, F4, b4, PySem.W.mg_of X G a4, tabX (hB (c4, P4) (by simp))⟩, whole := ⟨f5, _, F5, b5, PySem.W.mg_of X G a5⟩, shows := ⟨f6, c6, P6, _, F6, b6, PySem.W.mg_of X G a6, tabX (hB (c6, P6) (by simp))⟩, waits := ⟨f7, _, F7, b7, PySem.W.mg_of X G a7⟩, taken := ⟨f8, _, F8, b8, PySem.W.mg_of X G a8⟩, pick := ⟨f9, _, F9, b9, PySem.W.mg_of X G a9⟩, alike := ⟨f10, _, F10, b10, PySem.W.mg_of X G a10⟩, jobs := ⟨f11, _, F11, b11, PySem.W.mg_of X G a11⟩, all := ⟨f12, _, F12, b12, PySem.W.mg_of X G a12⟩, isst := ⟨f13, _, F13, b13, PySem.W.mg_of X G a13⟩ }, rfl⟩
    rw [← hS]
    exact S.okLaw FL (k := 0)
end K23
open PySem PySem.W PyProof.Rows
set_option maxHeartbeats 0 in
theorem PySem.Challenge.cw_eventcore_k23_whole_waiting_holds : PySem.Challenge.rw_eventcore_k23_whole_waiting.Holds := by
  w_on; o_law; k_head; (case hw => w_witness2)
  k_fill
  refine K23.walkT (l := PySem.Challenge.rw_eventcore_k23_whole_waiting) (n := 63) (k := 5) (x := "_law_script") rfl (by decide) rfl ⟨rfl, by decide, by decide⟩ (fun w h Y => PySem.W.kIn_of Y) ?F
  case F =>
    intro w mg fa h KX G hmg hTab
    refine' K23.all_mk KX G hmg (K23.gn_mk KX G ?z_isi ?z_int ?z_bool ?z_str ?z_tuple ?z_list ?z_dict ?z_len ?z_range ?z_sorted ?z_max ?z_min ?z_all ?z_enum ?v_time ?v_lng ?v_long) ?a0 ?l0 ?x0 ?k0 ?a1 ?l1 ?x1 ?k1 ?a2 ?l2 ?x2 ?k2 ?a3 ?l3 ?x3 ?k3 ?t3 ?n3 ?a4 ?l4 ?x4 ?k4 ?t4 ?n4 ?a5 ?l5 ?x5 ?k5 ?a6 ?l6 ?x6 ?k6 ?t6 ?n6 ?a7 ?l7 ?x7 ?k7 ?a8 ?l8 ?x8 ?k8 ?a9 ?l9 ?x9 ?k9 ?a10 ?l10 ?x10 ?k10 ?a11 ?l11 ?x11 ?k11 ?a12 ?l12 ?x12 ?k12 ?a13 ?l13 ?x13 ?k13 ?a14 ?l14 ?x14 ?k14
    (case z_isi => k_is)
    (case z_int => k_is)
    (case z_bool => k_is)
    (case z_str => k_is)
    (case z_tuple => k_is)
    (case z_list => k_is)
    (case z_dict => k_is)
    (case z_len => k_is)
    (case z_range => k_is)
    (case z_sorted => k_is)
    (case z_max => k_is)
    (case z_min => k_is)
    (case z_all => k_is)
    (case z_enum => k_is)
    (case v_time => k_is)
    (case v_lng => k_is)
    (case v_long => k_is)
    (case a0 => k_is)
    (case l0 => k_is)
    (case x0 => k_is)
    (case k0 => k_is)
    (case a1 => k_is)
    (case l1 => k_is)
    (case x1 => k_is)
    (case k1 => k_is)
    (case a2 => k_is)
    (case l2 => k_is)
    (case x2 => k_is)
    (case k2 => k_is)
    (case a3 => k_is)
    (case l3 => k_is)
    (case x3 => k_is)
    (case k3 => k_is)
    (case t3 => exact hTab "is_start_row" _ _ _ (by rfl) (by rfl))
    (case n3 => rfl)
    (case a4 => k_is)
    (case l4 => k_is)
    (case x4 => k_is)
    (case k4 => k_is)
    (case t4 => exact hTab "search" _ _ _ (by rfl) (by rfl))
    (case n4 => rfl)
    (case a5 => k_is)
    (case l5 => k_is)
    (case x5 => k_is)
    (case k5 => k_is)
    (case a6 => k_is)
    (case l6 => k_is)
    (case x6 => k_is)
    (case k6 => k_is)
    (case t6 => exact hTab "shows_whole_starts" _ _ _ (by rfl) (by rfl))
    (case n6 => rfl)
    (case a7 => k_is)
    (case l7 => k_is)
    (case x7 => k_is)
    (case k7 => k_is)
    (case a8 => k_is)
    (case l8 => k_is)
    (case x8 => k_is)
    (case k8 => k_is)
    (case a9 => k_is)
    (case l9 => k_is)
    (case x9 => k_is)
    (case k9 => k_is)
    (case a10 => k_is)
    (case l10 => k_is)
    (case x10 => k_is)
    (case k10 => k_is)
    (case a11 => k_is)
    (case l11 => k_is)
    (case x11 => k_is)
    (case k11 => k_is)
    (case a12 => k_is)
    (case l12 => k_is)
    (case x12 => k_is)
    (case k12 => k_is)
    (case a13 => k_is)
    (case l13 => k_is)
    (case x13 => k_is)
    (case k13 => k_is)
    (case a14 => k_is)
    (case l14 => k_is)
    (case x14 => k_is)
    (case k14 => k_is)
