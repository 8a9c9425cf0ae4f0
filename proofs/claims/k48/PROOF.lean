import PyProof.Rows.All
import Wide.All
import OpenK.AllK
import Wide.FinOn
import HandS.ForMost
import HandS.Walk
import HandS.Codes
import HandS.Star
import HandS.Property
import HandS.DictComp
import HandS.IsInst
import HandS.Deep
import HandS.TupAny
import HandS.ExcInit
import HandS.ExcField
import HandS.TryOnly
import HandS.ExcOwn
import HandS.Zip
import HandS.NoneIn
import HandS.Lambda
import HandS.Defaults
import KE.KDictKeyed
import KE.KDictWalk
import KE.KDictDisplayH
import KE.KOpsOwn
import KE.KStateDown
import Wide.Once
import HandS.Head0
import HandS.Head1
import HandS.Head2
import HandS.HeadHook4
import HandS.HeadNt
import HandS.HeadWalk
import KE.KDictCopyH
import KE.KEqDict
import HandS.More
import OpenK.KMeth
import HandS.Style
import HandS.RevTup
import HandS.WordsExc
import PySem.Challenge.RW_alsoshown_k48_whole_suites
set_option Elab.async false
set_option linter.all false
set_option maxRecDepth 100000
/-! ## KM0 -/
/-! KM0: the plain mathematics of the law: machines of patterns, standings, searches, reachability. No program in sight. -/
namespace K48
variable {A : Type} [DecidableEq A]

/-! ### lists -/
theorem len_le_of_sub {B : Type} [DecidableEq B] : ∀ {l u : List B}, l.Nodup → (∀ x ∈ l, x ∈ u) → l.length ≤ u.length
  | [], _, _, _ => Nat.zero_le _
  | a :: l, u, hn, hs => by
    obtain ⟨h1, h2⟩ := List.nodup_cons.mp hn
    have ha : a ∈ u := hs a List.mem_cons_self
    have := len_le_of_sub (l := l) (u := u.erase a) h2 fun x hx => by
      have hne : x ≠ a := fun e => h1 (e ▸ hx)
      exact (List.mem_erase_of_ne hne).mpr (hs x (List.mem_cons_of_mem _ hx))
    rw [List.length_erase_of_mem ha] at this
    have : 0 < u.length := List.length_pos_of_mem ha
    rw [List.length_cons]
    omega
def subs {B : Type} : List B → List (List B)
  | [] => [[]]
  | a :: l => subs l ++ (subs l).map (a :: ·)
theorem subs_len {B : Type} : ∀ l : List B, (subs l).length = 2 ^ l.length
  | [] => rfl
  | a :: l => by
    rw [subs, List.length_append, List.length_map, subs_len l, List.length_cons, Nat.pow_succ]
    omega
theorem filter_subs {B : Type} (f : B → Bool) : ∀ l : List B, l.filter f ∈ subs l
  | [] => by simp [subs]
  | a :: l => by
    have ih := filter_subs f l
    unfold subs
    rw [List.filter_cons]
    cases f a with
    | true =>
      rw [if_pos rfl]
      exact List.mem_append_right _ (List.mem_map.mpr ⟨_, ih, rfl⟩)
    | false =>
      rw [if_neg (by simp)]
      exact List.mem_append_left _ ih

/-! ### the machine of a pattern, by its meaning -/
structure Mach (A : Type) where
  n : Nat
  takes : Nat → A → Bool
  first : Nat → Bool
  last : Nat → Bool
  foll : Nat → Nat → Bool
  opt : Bool
def Mach.begun (M : Mach A) (ps : List Nat) (l : A) : List Nat := (List.range M.n).filter fun a => (M.first a || ps.any fun p => M.foll p a) && M.takes a l
def Mach.done (M : Mach A) (ps : List Nat) : Bool := ps.any M.last
theorem Mach.begun_len (M : Mach A) (ps : List Nat) (l : A) : (M.begun ps l).length ≤ M.n := by
  have := List.length_filter_le (fun a => (M.first a || ps.any fun p => M.foll p a) && M.takes a l) (List.range M.n)
  rw [List.length_range] at this
  exact this

/-- a lane: its name, start, end -/
abbrev Lane (A : Type) := A × A × A
/-- a standing: post, places, what is done -/
abbrev Stand (A : Type) := A × List Nat × List A
def more (wanted done : List A) (l : A) : List A := wanted.filter fun o => decide (o ∈ done) || decide (o = l)
def step (M : Mach A) (wanted : List A) (s : Stand A) (e : Lane A) : Option (Stand A) :=
  if e.2.1 = s.1 ∧ M.done (M.begun s.2.1 e.1) = false then some (e.2.2, M.begun s.2.1 e.1, more wanted s.2.2 e.1) else none
def walk : A → List (Lane A) → Option A
  | p, [] => some p
  | p, e :: r => if e.2.1 = p then walk e.2.2 r else none
def quiet (M : Mach A) : List Nat → List (Lane A) → Bool
  | _, [] => true
  | ps, e :: r => !M.done (M.begun ps e.1) && quiet M (M.begun ps e.1) r
def runTo (M : Mach A) (wanted : List A) : Stand A → List (Lane A) → Option (Stand A)
  | s, [] => some s
  | s, e :: r => match step M wanted s e with
    | some t => runTo M wanted t r
    | none => none
def goal (M : Mach A) (ends : List A) (wanted : List A) (s : Stand A) : Prop := s.1 ∈ ends ∧ s.2.2.length = wanted.length ∧ M.opt = false
/-- a run (its lanes) that takes w and does not show the pattern -/
structure Avoid (lanes : List (Lane A)) (M : Mach A) (start : A) (ends : List A) (w : A) (R : List (Lane A)) : Prop where
  opt : M.opt = false
  mem : ∀ e ∈ R, e ∈ lanes
  walk : ∃ q, walk start R = some q ∧ q ∈ ends
  takes : w ∈ R.map (·.1)
  quiet : quiet M [] R = true
theorem walk_app : ∀ {p : A} {R S : List (Lane A)}, walk p (R ++ S) = (walk p R).bind fun q => walk q S
  | p, [], S => rfl
  | p, e :: R, S => by
    rw [List.cons_append, walk, walk]
    by_cases h : e.2.1 = p
    · rw [if_pos h, if_pos h]
      exact walk_app
    · rw [if_neg h, if_neg h]
      rfl
theorem runTo_app {M : Mach A} {W : List A} : ∀ {s : Stand A} {R S : List (Lane A)}, runTo M W s (R ++ S) = (runTo M W s R).bind fun t => runTo M W t S
  | s, [], S => rfl
  | s, e :: R, S => by
    rw [List.cons_append, runTo, runTo]
    cases step M W s e with
    | none => rfl
    | some t => exact runTo_app
theorem runTo_snoc {M : Mach A} {W : List A} {s t u : Stand A} {R : List (Lane A)} {e : Lane A} (h : runTo M W s R = some t) (he : step M W t e = some u) : runTo M W s (R ++ [e]) = some u := by
  rw [runTo_app, h]
  show runTo M W t [e] = some u
  rw [runTo, he]
  rfl
/-- a run of standings is a quiet walk -/
theorem runTo_walk {M : Mach A} {W : List A} : ∀ {s t : Stand A} {R : List (Lane A)}, runTo M W s R = some t → walk s.1 R = some t.1 ∧ quiet M s.2.1 R = true
  | s, t, [], h => by cases Option.some.inj h; exact ⟨rfl, rfl⟩
  | s, t, e :: R, h => by
    rw [runTo] at h
    unfold step at h
    by_cases c : e.2.1 = s.1 ∧ M.done (M.begun s.2.1 e.1) = false
    · rw [if_pos c] at h
      obtain ⟨h1, h2⟩ := runTo_walk h
      refine ⟨?_, ?_⟩
      · rw [walk, if_pos c.1]
        exact h1
      · rw [quiet, c.2]
        exact h2
    · rw [if_neg c] at h
      cases h
theorem more_one {w l : A} {dn : List A} : more [w] dn l = if w ∈ dn ∨ w = l then [w] else [] := by
  unfold more
  rw [List.filter_cons, List.filter_nil]
  by_cases h : w ∈ dn ∨ w = l
  · rw [if_pos h]
    rcases h with h | h <;> simp [h]
  · rw [if_neg h]
    have h1 : ¬ w ∈ dn := fun z => h (.inl z)
    have h2 : ¬ w = l := fun z => h (.inr z)
    simp [h1, h2]
theorem runTo_done {M : Mach A} {w : A} : ∀ {s t : Stand A} {R : List (Lane A)}, runTo M [w] s R = some t → (s.2.2 = [] ∨ s.2.2 = [w]) → (t.2.2 = [] ∨ t.2.2 = [w]) ∧ (t.2.2 = [w] ↔ s.2.2 = [w] ∨ w ∈ R.map (·.1))
  | s, t, [], h, hs => by
    cases Option.some.inj h
    exact ⟨hs, ⟨fun z => .inl z, fun z => z.elim id fun z => by simp at z⟩⟩
  | s, t, e :: R, h, hs => by
    rw [runTo] at h
    unfold step at h
    by_cases c : e.2.1 = s.1 ∧ M.done (M.begun s.2.1 e.1) = false
    · rw [if_pos c] at h
      have hm : more [w] s.2.2 e.1 = [] ∨ more [w] s.2.2 e.1 = [w] := by
        rw [more_one]
        by_cases q : w ∈ s.2.2 ∨ w = e.1
        · rw [if_pos q]; exact .inr rfl
        · rw [if_neg q]; exact .inl rfl
      obtain ⟨h1, h2⟩ := runTo_done h hm
      refine ⟨h1, h2.trans ?_⟩
      show more [w] s.2.2 e.1 = [w] ∨ w ∈ R.map (·.1) ↔ s.2.2 = [w] ∨ w ∈ e.1 :: R.map (·.1)
      have e1 : more [w] s.2.2 e.1 = [w] ↔ s.2.2 = [w] ∨ w = e.1 := by
        rw [more_one]
        rcases hs with hs | hs
        · rw [hs]
          by_cases q : w = e.1 <;> simp [q]
        · rw [hs]
          simp
      rw [e1, List.mem_cons, or_assoc]
    · rw [if_neg c] at h
      cases h
/-- a quiet walk is a run of standings -/
theorem walk_runTo {M : Mach A} {W : List A} : ∀ {p q : A} {ps : List Nat} {dn : List A} {R : List (Lane A)}, walk p R = some q → quiet M ps R = true → ∃ ps' dn', runTo M W (p, ps, dn) R = some (q, ps', dn')
  | p, q, ps, dn, [], h, _ => by cases Option.some.inj h; exact ⟨ps, dn, rfl⟩
  | p, q, ps, dn, e :: R, h, hq => by
    rw [walk] at h
    by_cases c : e.2.1 = p
    · rw [if_pos c] at h
      rw [quiet, Bool.and_eq_true, Bool.not_eq_true'] at hq
      obtain ⟨ps', dn', hr⟩ := walk_runTo (W := W) (dn := more W dn e.1) h hq.2
      refine ⟨ps', dn', ?_⟩
      rw [runTo, step, if_pos ⟨c, hq.1⟩]
      exact hr
    · rw [if_neg c] at h
      cases h
/-- what is reached from s0 by lanes -/
def Reached (lanes : List (Lane A)) (M : Mach A) (W : List A) (s0 s : Stand A) (R : List (Lane A)) : Prop := (∀ e ∈ R, e ∈ lanes) ∧ runTo M W s0 R = some s
theorem Reached.snoc {lanes : List (Lane A)} {M : Mach A} {W : List A} {s0 s t : Stand A} {R : List (Lane A)} {e : Lane A} (h : Reached lanes M W s0 s R) (he : e ∈ lanes) (hs : step M W s e = some t) : Reached lanes M W s0 t (R ++ [e]) :=
  ⟨fun x hx => (List.mem_append.mp hx).elim (h.1 x) fun z => by rw [List.mem_singleton.mp z]; exact he, runTo_snoc h.2 hs⟩
theorem Reached.avoid {lanes : List (Lane A)} {M : Mach A} {start w : A} {ends : List A} {s : Stand A} {R : List (Lane A)} (h : Reached lanes M [w] (start, [], []) s R) (g : goal M ends [w] s) : Avoid lanes M start ends w R := by
  obtain ⟨g1, g2, g3⟩ := g
  obtain ⟨h1, h2⟩ := runTo_walk h.2
  obtain ⟨h3, h4⟩ := runTo_done h.2 (.inl rfl)
  refine ⟨g3, h.1, ⟨s.1, h1, g1⟩, ?_, h2⟩
  have e : s.2.2 = [w] := h3.resolve_left fun z => by rw [z] at g2; simp at g2
  exact (h4.mp e).resolve_left fun z => by simp at z
/-- a set of standings that holds the start and is closed, without a goal: no run avoids -/
theorem no_avoid {lanes : List (Lane A)} {M : Mach A} {start w : A} {ends : List A} {C : List (Stand A)} (h0 : (start, [], []) ∈ C)
    (hC : ∀ s ∈ C, ∀ e ∈ lanes, ∀ t, step M [w] s e = some t → t ∈ C) (hg : ∀ s ∈ C, ¬ goal M ends [w] s) {R : List (Lane A)} : ¬ Avoid lanes M start ends w R := by
  intro h
  have stay : ∀ {s t : Stand A} {R : List (Lane A)}, s ∈ C → (∀ e ∈ R, e ∈ lanes) → runTo M [w] s R = some t → t ∈ C := by
    intro s t R
    induction R generalizing s with
    | nil => intro hs _ h; cases Option.some.inj h; exact hs
    | cons e R ih =>
      intro hs hm h
      rw [runTo] at h
      cases q : step M [w] s e with
      | none => rw [q] at h; cases h
      | some u =>
        rw [q] at h
        exact ih (hC s hs e (hm e List.mem_cons_self) u q) (fun x hx => hm x (List.mem_cons_of_mem _ hx)) h
  obtain ⟨q, hw, hq⟩ := h.walk
  obtain ⟨ps', dn', hr⟩ := walk_runTo (W := [w]) (dn := []) hw h.quiet
  have hm := stay h0 h.mem hr
  obtain ⟨h3, h4⟩ := runTo_done hr (.inl rfl)
  have e : dn' = [w] := h4.mpr (.inr h.takes)
  exact hg _ hm ⟨hq, by rw [e], h.opt⟩

/-! ### the standings are finitely many -/
def univ (posts : List A) (n : Nat) (w : A) : List (Stand A) := posts.flatMap fun p => (subs (List.range n)).flatMap fun ps => [(p, ps, []), (p, ps, [w])]
theorem univ_len (posts : List A) (n : Nat) (w : A) : (univ posts n w).length = posts.length * (2 ^ n * 2) := by
  unfold univ
  induction posts with
  | nil => simp
  | cons p posts ih =>
    rw [List.flatMap_cons, List.length_append, ih, List.length_cons]
    have e : ((subs (List.range n)).flatMap fun ps => [(p, ps, []), (p, ps, [w])]).length = (subs (List.range n)).length * 2 := by
      induction subs (List.range n) with
      | nil => rfl
      | cons a l ih =>
        have e2 : (a :: l).length = l.length + 1 := rfl
        rw [List.flatMap_cons, List.length_append, ih, e2, Nat.add_mul]
        show 2 + l.length * 2 = l.length * 2 + 1 * 2
        omega
    rw [e, subs_len, List.length_range, Nat.add_mul]
    omega
theorem univ_start {posts : List A} {n : Nat} {w p : A} (h : p ∈ posts) : (p, [], []) ∈ univ posts n w := by
  refine List.mem_flatMap.mpr ⟨p, h, List.mem_flatMap.mpr ⟨[], ?_, List.mem_cons_self⟩⟩
  have e : (List.range n).filter (fun _ => false) = [] := List.filter_eq_nil_iff.mpr fun _ _ => by decide
  have := filter_subs (fun _ => false) (List.range n)
  rw [e] at this
  exact this
theorem univ_step {posts : List A} {M : Mach A} {w : A} {s t : Stand A} {e : Lane A} (he : e.2.2 ∈ posts) (h : step M [w] s e = some t) : t ∈ univ posts M.n w := by
  unfold step at h
  by_cases c : e.2.1 = s.1 ∧ M.done (M.begun s.2.1 e.1) = false
  · rw [if_pos c] at h
    cases Option.some.inj h
    refine List.mem_flatMap.mpr ⟨e.2.2, he, List.mem_flatMap.mpr ⟨M.begun s.2.1 e.1, filter_subs _ _, ?_⟩⟩
    rw [more_one]
    by_cases q : w ∈ s.2.2 ∨ w = e.1
    · rw [if_pos q]; exact List.mem_cons_of_mem _ List.mem_cons_self
    · rw [if_neg q]; exact List.mem_cons_self
  · rw [if_neg c] at h
    cases h
theorem univ_small {posts : List A} {n : Nat} {w : A} {l : List (Stand A)} (hn : l.Nodup) (hs : ∀ x ∈ l, x ∈ univ posts n w) (hp : posts.length ≤ 5) (h5 : n ≤ 5) : l.length ≤ 320 := by
  have h1 := len_le_of_sub hn hs
  rw [univ_len] at h1
  have h2 : 2 ^ n ≤ 2 ^ 5 := Nat.pow_le_pow_right (by decide) h5
  have h3 : posts.length * (2 ^ n * 2) ≤ 5 * (2 ^ 5 * 2) := Nat.mul_le_mul hp (Nat.mul_le_mul_right 2 h2)
  exact Nat.le_trans h1 h3

/-! ### posts that are reached -/
def Way (lanes : List (Lane A)) (p q : A) (R : List (Lane A)) : Prop := (∀ e ∈ R, e ∈ lanes) ∧ walk p R = some q
def Conn (lanes : List (Lane A)) (p q : A) : Prop := ∃ R, Way lanes p q R
theorem Way.nil {lanes : List (Lane A)} {p : A} : Way lanes p p [] := ⟨fun _ h => by simp at h, rfl⟩
theorem Way.app {lanes : List (Lane A)} {p q r : A} {R S : List (Lane A)} (a : Way lanes p q R) (b : Way lanes q r S) : Way lanes p r (R ++ S) :=
  ⟨fun e h => (List.mem_append.mp h).elim (a.1 e) (b.1 e), by rw [walk_app, a.2]; exact b.2⟩
theorem Way.one {lanes : List (Lane A)} {e : Lane A} (h : e ∈ lanes) : Way lanes e.2.1 e.2.2 [e] := ⟨fun x hx => by rw [List.mem_singleton.mp hx]; exact h, by rw [walk, if_pos rfl]; rfl⟩
theorem Way.snoc {lanes : List (Lane A)} {p : A} {e : Lane A} {R : List (Lane A)} (a : Way lanes p e.2.1 R) (h : e ∈ lanes) : Way lanes p e.2.2 (R ++ [e]) := a.app (Way.one h)
theorem conn_closed {lanes : List (Lane A)} {C : A → Prop} (hC : ∀ e ∈ lanes, C e.2.1 → C e.2.2) {p q : A} (hp : C p) (h : Conn lanes p q) : C q := by
  obtain ⟨R, h1, h2⟩ := h
  induction R generalizing p with
  | nil => cases Option.some.inj h2; exact hp
  | cons e R ih =>
    rw [walk] at h2
    by_cases c : e.2.1 = p
    · rw [if_pos c] at h2
      exact ih (hC e (h1 e List.mem_cons_self) (c ▸ hp)) (fun x hx => h1 x (List.mem_cons_of_mem _ hx)) h2
    · rw [if_neg c] at h2
      cases h2
theorem conn_closed_back {lanes : List (Lane A)} {C : A → Prop} (hC : ∀ e ∈ lanes, C e.2.2 → C e.2.1) {p q : A} (hq : C q) (h : Conn lanes p q) : C p := by
  obtain ⟨R, h1, h2⟩ := h
  induction R generalizing p with
  | nil => cases Option.some.inj h2; exact hq
  | cons e R ih =>
    rw [walk] at h2
    by_cases c : e.2.1 = p
    · rw [if_pos c] at h2
      have := ih (fun x hx => h1 x (List.mem_cons_of_mem _ hx)) h2
      exact c ▸ hC e (h1 e List.mem_cons_self) this
    · rw [if_neg c] at h2
      cases h2
/-- a lane that some run takes -/
def Used (lanes : List (Lane A)) (start : A) (ends : List A) (e : Lane A) : Prop := e ∈ lanes ∧ Conn lanes start e.2.1 ∧ ∃ q ∈ ends, Conn lanes e.2.2 q

/-! ### trees of patterns, and what is read off them -/
inductive PTree (A : Type) where
  | any (ns : List A)
  | non (ns : List A)
  | rep (t : PTree A)
  | opt (t : PTree A)
  | either (a b : PTree A)
  | join (a b : PTree A)
structure ML (A : Type) where
  atoms : List (Bool × List A)
  firsts : List Nat
  lasts : List Nat
  pairs : List (Nat × Nat)
  opt : Bool
def crossedL (a b : List Nat) : List (Nat × Nat) := a.flatMap fun x => b.map fun y => (x, y)
/-- the package's reading -/
def readT : PTree A → Nat → ML A
  | .any ns, k => ⟨[(true, ns)], [k], [k], [], false⟩
  | .non ns, k => ⟨[(false, ns)], [k], [k], [], false⟩
  | .rep t, k => let o := readT t k; ⟨o.atoms, o.firsts, o.lasts, o.pairs ++ crossedL o.lasts o.firsts, true⟩
  | .opt t, k => let o := readT t k; ⟨o.atoms, o.firsts, o.lasts, o.pairs, true⟩
  | .either a b, k => let o := readT a k; let t := readT b (k + o.atoms.length); ⟨o.atoms ++ t.atoms, o.firsts ++ t.firsts, o.lasts ++ t.lasts, o.pairs ++ t.pairs, o.opt || t.opt⟩
  | .join a b, k => let o := readT a k; let t := readT b (k + o.atoms.length)
    ⟨o.atoms ++ t.atoms, if o.opt then o.firsts ++ t.firsts else o.firsts, if t.opt then o.lasts ++ t.lasts else t.lasts, o.pairs ++ t.pairs ++ crossedL o.lasts t.firsts, o.opt && t.opt⟩
/-- the law's reading -/
def lawT : PTree A → Nat → ML A
  | .any ns, k => ⟨[(true, ns)], [k], [k], [], false⟩
  | .non ns, k => ⟨[(false, ns)], [k], [k], [], false⟩
  | .rep t, k => let o := lawT t k; ⟨o.atoms, o.firsts, o.lasts, o.pairs ++ crossedL o.lasts o.firsts, true⟩
  | .opt t, k => let o := lawT t k; ⟨o.atoms, o.firsts, o.lasts, o.pairs, true⟩
  | .either a b, k => let o := lawT a k; let t := lawT b (k + o.atoms.length); ⟨o.atoms ++ t.atoms, o.firsts ++ t.firsts, o.lasts ++ t.lasts, o.pairs ++ t.pairs, o.opt || t.opt⟩
  | .join a b, k => let o := lawT a k; let t := lawT b (k + o.atoms.length)
    ⟨o.atoms ++ t.atoms, o.firsts ++ t.firsts.filter (fun _ => o.opt), t.lasts ++ o.lasts.filter (fun _ => t.opt), o.pairs ++ t.pairs ++ crossedL o.lasts t.firsts, o.opt && t.opt⟩
def ML.mach (m : ML A) : Mach A where
  n := m.atoms.length
  takes := fun a l => match m.atoms[a]? with
    | some (b, ns) => decide (l ∈ ns) == b
    | none => false
  first := fun a => decide (a ∈ m.firsts)
  last := fun a => decide (a ∈ m.lasts)
  foll := fun a b => decide ((a, b) ∈ m.pairs)
  opt := m.opt
structure Alike (m m' : ML A) : Prop where
  atoms : m.atoms = m'.atoms
  firsts : ∀ x, x ∈ m.firsts ↔ x ∈ m'.firsts
  lasts : ∀ x, x ∈ m.lasts ↔ x ∈ m'.lasts
  pairs : ∀ x, x ∈ m.pairs ↔ x ∈ m'.pairs
  opt : m.opt = m'.opt
theorem Alike.mach {m m' : ML A} (h : Alike m m') : m.mach = m'.mach := by
  unfold ML.mach
  obtain ⟨h1, h2, h3, h4, h5⟩ := h
  rw [h1, h5]
  congr 1
  · funext a; exact decide_eq_decide.mpr (h2 a)
  · funext a; exact decide_eq_decide.mpr (h3 a)
  · funext a b; exact decide_eq_decide.mpr (h4 (a, b))
theorem mem_crossedL {a b : List Nat} {x : Nat × Nat} : x ∈ crossedL a b ↔ x.1 ∈ a ∧ x.2 ∈ b := by
  unfold crossedL
  simp only [List.mem_flatMap, List.mem_map]
  constructor
  · rintro ⟨i, hi, j, hj, rfl⟩
    exact ⟨hi, hj⟩
  · rintro ⟨h1, h2⟩
    exact ⟨x.1, h1, x.2, h2, rfl⟩
theorem mem_filter_const {l : List Nat} {b : Bool} {x : Nat} : x ∈ l.filter (fun _ => b) ↔ x ∈ l ∧ b = true := by
  rw [List.mem_filter]
theorem alike : ∀ (t : PTree A) (k : Nat), Alike (readT t k) (lawT t k)
  | .any ns, k => ⟨rfl, fun _ => .rfl, fun _ => .rfl, fun _ => .rfl, rfl⟩
  | .non ns, k => ⟨rfl, fun _ => .rfl, fun _ => .rfl, fun _ => .rfl, rfl⟩
  | .rep t, k => by
    obtain ⟨h1, h2, h3, h4, h5⟩ := alike t k
    refine ⟨h1, h2, h3, fun x => ?_, rfl⟩
    show x ∈ _ ++ _ ↔ x ∈ _ ++ _
    rw [List.mem_append, List.mem_append, mem_crossedL, mem_crossedL, h4, h2, h3]
  | .opt t, k => by
    obtain ⟨h1, h2, h3, h4, h5⟩ := alike t k
    exact ⟨h1, h2, h3, h4, rfl⟩
  | .either a b, k => by
    obtain ⟨h1, h2, h3, h4, h5⟩ := alike a k
    have q := alike b (k + (readT a k).atoms.length)
    rw [h1] at q
    obtain ⟨g1, g2, g3, g4, g5⟩ := q
    refine ⟨?_, fun x => ?_, fun x => ?_, fun x => ?_, ?_⟩ <;> simp only [readT, lawT, List.mem_append, h1, h2, h3, h4, h5, g1, g2, g3, g4, g5]
  | .join a b, k => by
    obtain ⟨h1, h2, h3, h4, h5⟩ := alike a k
    have q := alike b (k + (readT a k).atoms.length)
    rw [h1] at q
    obtain ⟨g1, g2, g3, g4, g5⟩ := q
    refine ⟨?_, fun x => ?_, fun x => ?_, fun x => ?_, ?_⟩
    · simp only [readT, lawT, h1, g1]
    · simp only [readT, lawT, h1, h5, List.mem_append, mem_filter_const]
      cases (lawT a k).opt with
      | true => simp [h2, g2]
      | false => simp [h2]
    · simp only [readT, lawT, h1, g5, List.mem_append, mem_filter_const]
      cases (lawT b (k + (lawT a k).atoms.length)).opt with
      | true => simp [h3, g3, or_comm]
      | false => simp [g3]
    · simp only [readT, lawT, h1, List.mem_append, mem_crossedL, h3, h4, g4, g2]
    · simp only [readT, lawT, h1, h5, g5]
def PTree.leaves : PTree A → Nat
  | .any _ => 1
  | .non _ => 1
  | .rep t => t.leaves
  | .opt t => t.leaves
  | .either a b => a.leaves + b.leaves
  | .join a b => a.leaves + b.leaves
def PTree.depth : PTree A → Nat
  | .any _ => 0
  | .non _ => 0
  | .rep t => t.depth + 1
  | .opt t => t.depth + 1
  | .either a b => max a.depth b.depth + 1
  | .join a b => max a.depth b.depth + 1
theorem readT_atoms : ∀ (t : PTree A) (k : Nat), (readT t k).atoms.length = t.leaves
  | .any _, _ => rfl
  | .non _, _ => rfl
  | .rep t, k => readT_atoms t k
  | .opt t, k => readT_atoms t k
  | .either a b, k => by simp only [readT, List.length_append, PTree.leaves, readT_atoms]
  | .join a b, k => by simp only [readT, List.length_append, PTree.leaves, readT_atoms]
theorem lawT_atoms (t : PTree A) (k : Nat) : (lawT t k).atoms.length = t.leaves := by rw [← (alike t k).atoms, readT_atoms]
theorem leaves_pos : ∀ t : PTree A, 0 < t.leaves
  | .any _ => Nat.one_pos
  | .non _ => Nat.one_pos
  | .rep t => leaves_pos t
  | .opt t => leaves_pos t
  | .either a b => Nat.lt_of_lt_of_le (leaves_pos a) (Nat.le_add_right _ _)
  | .join a b => Nat.lt_of_lt_of_le (leaves_pos a) (Nat.le_add_right _ _)
/-- the machine of a tree -/
def machOf (t : PTree A) : Mach A := (readT t 0).mach
theorem machOf_law (t : PTree A) : machOf t = (lawT t 0).mach := (alike t 0).mach
theorem machOf_n (t : PTree A) : (machOf t).n = t.leaves := readT_atoms t 0
/-- sizes of what is read -/
theorem readT_sizes : ∀ (t : PTree A) (k : Nat), (readT t k).firsts.length ≤ t.leaves ∧ (readT t k).lasts.length ≤ t.leaves
  | .any _, _ => ⟨Nat.le_refl _, Nat.le_refl _⟩
  | .non _, _ => ⟨Nat.le_refl _, Nat.le_refl _⟩
  | .rep t, k => readT_sizes t k
  | .opt t, k => readT_sizes t k
  | .either a b, k => by
    obtain ⟨h1, h2⟩ := readT_sizes a k
    obtain ⟨g1, g2⟩ := readT_sizes b (k + (readT a k).atoms.length)
    simp only [readT, List.length_append, PTree.leaves]
    omega
  | .join a b, k => by
    obtain ⟨h1, h2⟩ := readT_sizes a k
    obtain ⟨g1, g2⟩ := readT_sizes b (k + (readT a k).atoms.length)
    simp only [readT, PTree.leaves]
    refine ⟨?_, ?_⟩
    · by_cases c : (readT a k).opt = true
      · rw [if_pos c, List.length_append]; omega
      · rw [if_neg c]; omega
    · by_cases c : (readT b (k + (readT a k).atoms.length)).opt = true
      · rw [if_pos c, List.length_append]; omega
      · rw [if_neg c]; omega
theorem crossedL_len (a b : List Nat) : (crossedL a b).length = a.length * b.length := by
  unfold crossedL
  induction a with
  | nil => simp
  | cons x a ih => rw [List.flatMap_cons, List.length_append, ih, List.length_map, List.length_cons, Nat.add_mul]; omega
/-- the tree of one sequence of names -/
def rowT : List A → PTree A
  | [] => .any []
  | a :: l => l.foldl (fun t n => .join t (.any [n])) (.any [a])
theorem row_fold (l : List A) : ∀ t : PTree A, (l.foldl (fun t n => .join t (.any [n])) t).leaves = t.leaves + l.length ∧ (l.foldl (fun t n => PTree.join t (.any [n])) t).depth = t.depth + l.length := by
  induction l with
  | nil => intro t; exact ⟨rfl, rfl⟩
  | cons n l ih =>
    intro t
    obtain ⟨h1, h2⟩ := ih (.join t (.any [n]))
    rw [List.foldl_cons, h1, h2, List.length_cons]
    simp only [PTree.leaves, PTree.depth]
    have : max t.depth 0 = t.depth := Nat.max_eq_left (Nat.zero_le _)
    omega
theorem rowT_leaves {l : List A} (h : l ≠ []) : (rowT l).leaves = l.length ∧ (rowT l).depth + 1 = l.length := by
  cases l with
  | nil => exact absurd rfl h
  | cons a l =>
    obtain ⟨h1, h2⟩ := row_fold l (.any [a])
    unfold rowT
    rw [h1, h2, List.length_cons]
    simp only [PTree.leaves, PTree.depth]
    omega
/-- a run shows the pattern -/
def shows (M : Mach A) (R : List (Lane A)) : Prop := M.opt = true ∨ quiet M [] R = false
end K48
/-! ## KB -/
set_option maxHeartbeats 4000000
namespace K48
open PySem L2
/-! ### the text -/
def topS (i : Nat) : Stmt := PySem.Challenge.pw_alsoshown_k48_whole_suites.main.body.getD i (.Pass ⟨0, 0, 0, 0⟩)

/-! ### heaps: what stays -/
/-- all but what m tells stays -/
def Off (m : Addr → Prop) (H H' : Hp) : Prop := ∀ a o, ¬ m a → H a = some o → H' a = some o
abbrev no : Addr → Prop := fun _ => False
theorem _root_.L2.Same.off {m : Addr → Prop} {H H' : Hp} (s : Same H H') : Off m H H' := fun a o _ h => s a o h
theorem Off.same {H H' : Hp} (s : Off no H H') : Same H H' := fun a o h => s a o (fun z => z) h
theorem Off.trans {m : Addr → Prop} {H H1 H2 : Hp} (a : Off m H H1) (b : Off m H1 H2) : Off m H H2 := fun c o n h => b c o n (a c o n h)
theorem _root_.L2.Same.seqT {K : PySem.W.Frag} {H H' : Hp} {a : Addr} {xs : List V} (e : Same H H') (h : SqT K H a xs) : SqT K H' a xs := by
  rcases h with (h | ⟨o, h⟩) | h
  · exact .inl (.inl (e _ _ h))
  · exact .inl (.inr ⟨o, e _ _ h⟩)
  · exact .inr h
theorem same_upd {H : Hp} {p : Addr} {o : HO} (h : H p = none) : Same H (upd H p o) := fun b u e => by rw [upd_ne (ne_of_none e h)]; exact e
theorem _root_.L2.Same.upd_new {G H : Hp} {p : Addr} {o : HO} (s : Same G H) (h : H p = none) : Same G (upd H p o) := s.trans (same_upd h)
theorem _root_.L2.Same.upd_mut {G H : Hp} {p : Addr} {o : HO} (s : Same G H) (h : G p = none) : Same G (upd H p o) := fun b u e => by rw [upd_ne (ne_of_none e h)]; exact s b u e
/-- the ghost G grows to G', the heap H to H': G is what is told for good -/
structure Grow (m : Addr → Prop) (G H G' H' : Hp) : Prop where
  off : Off m H H'
  gg : Same G G'
  gh : Same G' H'
  new : ∀ a, G a = none → H a ≠ none → G' a = none
section
variable {m : Addr → Prop} {G H G' H' G1 H1 G2 H2 : Hp} {p : Addr} {o : HO}
theorem Grow.refl (s : Same G H) : Grow m G H G H := ⟨(Same.refl H).off, Same.refl G, s, fun _ h _ => h⟩
theorem Grow.trans (a : Grow m G H G1 H1) (b : Grow m G1 H1 G2 H2) (hm : ∀ q, m q → H q ≠ none → H1 q ≠ none := by first | exact fun q z _ => absurd z (fun z => z) | assumption) : Grow m G H G2 H2 where
  off := a.off.trans b.off
  gg := a.gg.trans b.gg
  gh := b.gh
  new := fun q h1 h2 => by
    refine b.new q (a.new q h1 h2) ?_
    by_cases hq : m q
    · exact hm q hq h2
    · cases e : H q with
      | none => exact absurd e h2
      | some u => rw [a.off q u hq e]; intro z; cases z
theorem Grow.mono {m' : Addr → Prop} (a : Grow m G H G1 H1) (h : ∀ q, m q → m' q) : Grow m' G H G1 H1 := ⟨fun q o n e => a.off q o (fun z => n (h q z)) e, a.gg, a.gh, a.new⟩
theorem Grow.up (a : Grow no G H G1 H1) : Grow m G H G1 H1 := a.mono fun _ z => z.elim
/-- the heap alone grows -/
theorem Grow.heap (g : Grow m G H G1 H1) (s : Same H1 H2) : Grow m G H G1 H2 := ⟨fun q o n e => s q o (g.off q o n e), g.gg, g.gh.trans s, g.new⟩
/-- a thing that the ghost does not know is changed; it stands not in H, or m tells it -/
theorem Grow.mut (g : Grow m G H G1 H1) (h1 : G1 p = none) (h2 : H p = none ∨ m p) : Grow m G H G1 (upd H1 p o) where
  off := fun q u n e => by
    have hq : q ≠ p := fun z => by
      rcases h2 with h2 | h2
      · rw [z, h2] at e; cases e
      · exact n (z ▸ h2)
    rw [upd_ne hq]
    exact g.off q u n e
  gg := g.gg
  gh := g.gh.upd_mut h1
  new := g.new
/-- what stands in the heap, and stood not in H, is told from now on -/
theorem Grow.tell (g : Grow m G H G1 H1) (h1 : H1 p = some o) (h2 : H p = none) : Grow m G H (upd G1 p o) H1 where
  off := g.off
  gg := fun q u e => by
    by_cases hq : q = p
    · subst hq
      rw [upd_same, ← h1]
      exact g.gh _ _ (g.gg _ _ e)
    · rw [upd_ne hq]; exact g.gg _ _ e
  gh := fun q u e => by
    by_cases hq : q = p
    · subst hq
      rw [upd_same] at e
      rw [h1, e]
    · rw [upd_ne hq] at e; exact g.gh _ _ e
  new := fun q a b => by
    have hq : q ≠ p := fun z => b (z ▸ h2)
    rw [upd_ne hq]
    exact g.new q a b
theorem Grow.free (g : Grow m G H G1 H1) (h : H1 p = none) (hm : ¬ m p) : H p = none := by
  cases e : H p with
  | none => rfl
  | some u => rw [g.off p u hm e] at h; cases h
theorem Grow.freeN (g : Grow no G H G1 H1) (h : H1 p = none) : H p = none := g.free h fun z => z
theorem Grow.same (g : Grow no G H G1 H1) : Same H H1 := g.off.same
theorem same_tell (s : Same G H) (h : H p = some o) : Same (upd G p o) H := fun q u e => by
  by_cases hq : q = p
  · subst hq; rw [upd_same] at e; rw [h, e]
  · rw [upd_ne hq] at e; exact s _ _ e
theorem same_tellG (s : Same G H) (h : H p = some o) : Same G (upd G p o) := fun q u e => by
  by_cases hq : q = p
  · subst hq; rw [upd_same]; rw [s _ _ e] at h; exact h.symm
  · rw [upd_ne hq]; exact e
end

/-! ### data in the ghost -/
theorem _root_.L2.Dp.mono {K : PySem.W.Frag} {G G' : Hp} (s : Same G G') : ∀ (d : PyData) (v : V), Dp K G v d → Dp K G' v d := by
  have tup : ∀ {a xs}, SqT K G a xs → SqT K G' a xs := fun {a xs} h => by
    rcases h with (h | ⟨o, h⟩) | h
    · exact .inl (.inl (s _ _ h))
    · exact .inl (.inr ⟨o, s _ _ h⟩)
    · exact .inr h
  intro d v h
  refine Dp.rec (motive_1 := fun v d _ => Dp K G' v d) (motive_2 := fun vs ds _ => DpAll K G' vs ds) ?_ ?_ ?_ ?_ ?_ ?_ ?_ ?_ h
  · exact .non
  · exact fun b => .bl b
  · exact fun i => .int i
  · exact fun x => .str x
  · exact fun q _ ih => .lst (s.seq q) ih
  · exact fun q _ ih => .tup (tup q) ih
  · exact .nil
  · exact fun _ _ h1 h2 => .cons h1 h2
theorem _root_.L2.DpAll.mono {K : PySem.W.Frag} {G G' : Hp} (s : Same G G') {vs : List V} {ds : List PyData} (h : DpAll K G vs ds) : DpAll K G' vs ds := by
  induction ds generalizing vs with
  | nil => cases h; exact .nil
  | cons d ds ih =>
    cases h with
    | cons h1 h2 => exact .cons (Dp.mono s _ _ h1) (ih h2)
end K48
/-! ## KHA -/
set_option maxHeartbeats 4000000
namespace K48
open PySem PySem.Spec PyProof.Rows L2
/-! ### facts of the head, as Bools of what is looked at -/
section
variable {K : PySem.W.Frag} {C : Addr} {n : Str}
/-- the getter of the property n -/
def propG (K : PySem.W.Frag) (C : Addr) (n : Str) : Addr := match PySem.W.recIn K (He.ma K C n) "property" with
  | some (.ref g :: _) => g
  | _ => 0
def propB (K : PySem.W.Frag) (C : Addr) (n : Str) : Bool := He.eqO (PySem.W.findIn K (.ref C) n) (some (some (.ref (He.ma K C n)))) && (He.eqO (PySem.W.specialIn K (.ref (He.ma K C n)) "__get__") (some (some (.builtin "property.__get__"))) &&
  (decide (PySem.W.takesIn K (.ref (He.ma K C n)) = some true) && (match PySem.W.recIn K (He.ma K C n) "property" with
    | some (.ref _ :: _) => true
    | _ => false)))
theorem propB_ok (h : propB K C n = true) : PropOf K C n (He.ma K C n) (propG K C n) := by
  obtain ⟨h1, h⟩ := He.ba h
  obtain ⟨h2, h⟩ := He.ba h
  obtain ⟨h3, h4⟩ := He.ba h
  refine ⟨He.eqO_ok h1, He.eqO_ok h2, of_decide_eq_true h3, ?_⟩
  unfold propG
  split at h4
  · rename_i g r e
    exact ⟨r, by rw [e]⟩
  · cases h4
def insB (K : PySem.W.Frag) (C : Addr) : Bool := He.eqO (PySem.W.findIn K (.ref C) "__class__") (some (some (.builtin "object.__class__"))) && (He.eqO (PySem.W.specialIn K (.builtin "object.__class__") "__get__") (some (some (.builtin "getset_descriptor.__get__"))) &&
  (decide (PySem.W.takesIn K (.builtin "object.__class__") = some true) && (decide (PySem.W.mroIn K C (.type "object") = some true) && decide (PySem.W.kitOne K (.ref C) (.ref C) = some true))))
theorem insB_ok (c : Cls K C) (h : insB K C = true) : C8.InsC K C := by
  obtain ⟨h1, h⟩ := He.ba h
  obtain ⟨h2, h⟩ := He.ba h
  obtain ⟨h3, h⟩ := He.ba h
  obtain ⟨h4, h5⟩ := He.ba h
  exact ⟨c, He.eqO_ok h1, He.eqO_ok h2, of_decide_eq_true h3, of_decide_eq_true h4, of_decide_eq_true h5⟩
def oexB1 (K : PySem.W.Frag) (C : Addr) : Bool := match K.lookup C with
  | some ⟨.type t, _, .cls cd, sl⟩ => decide (t = "type") && (cd.hasDict && (!cd.hasDel && (match cd.mro with
    | .ref D :: bm => decide (D = C) && PySem.HandSPX.refsVE bm
    | _ => false) && (match sl.toList with
    | [_, _, _, _, some (.builtin m), _] => decide (m = "ValueError.__new__")
    | _ => false)))
  | _ => false
def oexB (K : PySem.W.Frag) (C : Addr) : Bool := oexB1 K C && (He.eqO (PySem.W.findIn K (.ref C) "__setattr__") (some (some (.builtin "object.__setattr__"))) && (decide (PySem.W.subIn K (.ref C) (.type "BaseException") = some true) &&
  (decide (PySem.W.typeIn K (.ref C) = some (.type "type")) && PySem.W.keepIn K (.ref C))))
theorem oexB_ok (h : oexB K C = true) : OexC K C := by
  obtain ⟨h1, h⟩ := He.ba h
  obtain ⟨h2, h⟩ := He.ba h
  obtain ⟨h3, h⟩ := He.ba h
  obtain ⟨h4, h5⟩ := He.ba h
  refine ⟨?_, He.eqO_ok h2, of_decide_eq_true h3, of_decide_eq_true h4, h5⟩
  unfold oexB1 at h1
  split at h1
  · rename_i t dd cd sl e
    obtain ⟨k1, k⟩ := He.ba h1
    obtain ⟨k2, k⟩ := He.ba k
    obtain ⟨k, k5⟩ := He.ba k
    obtain ⟨k3, k4⟩ := He.ba k
    have et : t = "type" := of_decide_eq_true k1
    subst et
    obtain ⟨nm, bs, mro, ns, qn, hd, sn, sub, ab, col, del⟩ := cd
    obtain rfl : hd = true := k2
    obtain rfl : del = false := by
      have k6 : (!del) = true := k3
      clear k3 k4 k5 e
      cases del with
      | false => rfl
      | true => cases k6
    split at k4
    · rename_i D bm em
      obtain ⟨j1, j2⟩ := He.ba k4
      have eD : D = C := of_decide_eq_true j1
      subst eD
      have em : mro = .ref D :: bm := em
      subst em
      split at k5
      · rename_i a0 a1 a2 a3 m a5 es
        have eM : m = "ValueError.__new__" := of_decide_eq_true k5
        subst eM
        have esl : sl = #[a0, a1, a2, a3, some (.builtin "ValueError.__new__"), a5] := by
          obtain ⟨l⟩ := sl
          have es : l = _ := es
          rw [es]
        subst esl
        exact ⟨nm, qn, ns, bs, bm, sn, sub, ab, col, dd, a0, a1, a2, a3, a5, e, j2⟩
      · cases k5
    · cases k4
  · cases h1
/-- an empty tuple -/
def emptB (K : PySem.W.Frag) (a : Addr) : Bool := match K.lookup a with
  | some ⟨.type c, _, .seq its _, _⟩ => decide (c = "tuple") && (decide (its.size ≤ sizeLine) && He.relAll [] its.toList)
  | _ => false
theorem emptB_ok {a : Addr} (h : emptB K a = true) (H : Hp) : SqT K H a [] := by
  unfold emptB at h
  split at h
  · rename_i c dd its k sl e
    obtain ⟨h1, h⟩ := He.ba h
    obtain ⟨h2, h3⟩ := He.ba h
    exact .inr ⟨_, its, k, e, congrArg Value.type (of_decide_eq_true h1), rfl, of_decide_eq_true h2, He.relAll_ok h3⟩
  · cases h
end
abbrev aC (K : PySem.W.Frag) (x : Str) : Addr := He.ga K x
abbrev aE (K : PySem.W.Frag) : Addr := He.dflAt ("Net", some "__init__") 0 K
abbrev aI (K : PySem.W.Frag) : Addr := He.ma K (aC K "Brought") "__init__"
def exL (K : PySem.W.Frag) : List Bool := [propB K (aC K "Net") "posts", propB K (aC K "Net") "lanes", PySem.W.selfFirst K (aC K "Pattern"), PySem.W.selfFirst K (aC K "Net"), insB K (aC K "Pattern"),
  decide (PySem.W.kitOne K (.type "tuple") (.ref (aC K "Pattern")) = some false), decide (PySem.W.kitOne K (.type "list") (.ref (aC K "Pattern")) = some false), oexB K (aC K "Brought"), xfB K (aC K "Brought"),
  He.eqO (PySem.W.findIn K (.ref (aC K "Brought")) "__init__") (some (some (.ref (aI K)))), decide (PySem.W.typeIn K (.ref (aI K)) = some (.type "function")), emptB K (aE K)]
def exB (K : PySem.W.Frag) : Bool := (exL K).all id
theorem exB_at {K : PySem.W.Frag} (h : exB K = true) (i : Nat) {b : Bool} (e : (exL K)[i]? = some b) : b = true := List.all_eq_true.mp h b (List.mem_of_getElem? e)
def d_first_missing : He5.DefA := ⟨fun K => He.ga K "first_missing", "first_missing", "first_missing", defArgs (topS 26), defBody (topS 26), defScope (topS 26), [], []⟩
def d_is_name : He5.DefA := ⟨fun K => He.ga K "is_name", "is_name", "is_name", defArgs (topS 23), defBody (topS 23), defScope (topS 23), [], []⟩
def d_check_lanes : He5.DefA := ⟨fun K => He.ga K "check_lanes", "check_lanes", "check_lanes", defArgs (topS 47), defBody (topS 47), defScope (topS 47), [], []⟩
def d_crossed : He5.DefA := ⟨fun K => He.ga K "crossed", "crossed", "crossed", defArgs (topS 17), defBody (topS 17), defScope (topS 17), [], []⟩
def d_read_tree : He5.DefA := ⟨fun K => He.ga K "read_tree", "read_tree", "read_tree", defArgs (topS 16), defBody (topS 16), defScope (topS 16), [], []⟩
def d_made_machine : He5.DefA := ⟨fun K => He.ga K "made_machine", "made_machine", "made_machine", defArgs (topS 15), defBody (topS 15), defScope (topS 15), [], []⟩
def d_joined : He5.DefA := ⟨fun K => He.ga K "joined", "joined", "joined", defArgs (topS 49), defBody (topS 49), defScope (topS 49), [], []⟩
def d_repeated : He5.DefA := ⟨fun K => He.ga K "repeated", "repeated", "repeated", defArgs (topS 59), defBody (topS 59), defScope (topS 59), [], []⟩
def d_optional : He5.DefA := ⟨fun K => He.ga K "optional", "optional", "optional", defArgs (topS 60), defBody (topS 60), defScope (topS 60), [], []⟩
def d_any_of : He5.DefA := ⟨fun K => He.ga K "any_of", "any_of", "any_of", defArgs (topS 56), defBody (topS 56), defScope (topS 56), [], []⟩
def d_none_of : He5.DefA := ⟨fun K => He.ga K "none_of", "none_of", "none_of", defArgs (topS 57), defBody (topS 57), defScope (topS 57), [], []⟩
def d_word_pattern : He5.DefA := ⟨fun K => He.ga K "word_pattern", "word_pattern", "word_pattern", defArgs (topS 58), defBody (topS 58), defScope (topS 58), [], []⟩
def d_as_pattern : He5.DefA := ⟨fun K => He.ga K "as_pattern", "as_pattern", "as_pattern", defArgs (topS 61), defBody (topS 61), defScope (topS 61), [], []⟩
def d_machine_of : He5.DefA := ⟨fun K => He.ga K "machine_of", "machine_of", "machine_of", defArgs (topS 62), defBody (topS 62), defScope (topS 62), [], []⟩
def d_reached_posts : He5.DefA := ⟨fun K => He.ga K "reached_posts", "reached_posts", "reached_posts", defArgs (topS 33), defBody (topS 33), defScope (topS 33), [], []⟩
def d_posts_before : He5.DefA := ⟨fun K => He.ga K "posts_before", "posts_before", "posts_before", defArgs (topS 65), defBody (topS 65), defScope (topS 65), [], []⟩
def d_lanes_of : He5.DefA := ⟨fun K => He.ga K "lanes_of", "lanes_of", "lanes_of", defArgs (topS 66), defBody (topS 66), defScope (topS 66), [], []⟩
def d_check_known : He5.DefA := ⟨fun K => He.ga K "check_known", "check_known", "check_known", defArgs (topS 67), defBody (topS 67), defScope (topS 67), [], []⟩
def d_check_used : He5.DefA := ⟨fun K => He.ga K "check_used", "check_used", "check_used", defArgs (topS 68), defBody (topS 68), defScope (topS 68), [], []⟩
def d_shortest_run : He5.DefA := ⟨fun K => He.ga K "shortest_run", "shortest_run", "shortest_run", defArgs (topS 69), defBody (topS 69), defScope (topS 69), [], []⟩
def d_suite : He5.DefA := ⟨fun K => He.ga K "suite", "suite", "suite", defArgs (topS 70), defBody (topS 70), defScope (topS 70), [], []⟩
def d__law_cell : He5.DefA := ⟨fun K => He.ga K "_law_cell", "_law_cell", "_law_cell", defArgs (topS 72), defBody (topS 72), defScope (topS 72), [], []⟩
def d__law_pool : He5.DefA := ⟨fun K => He.ga K "_law_pool", "_law_pool", "_law_pool", defArgs (topS 73), defBody (topS 73), defScope (topS 73), [], []⟩
def d__law_take : He5.DefA := ⟨fun K => He.ga K "_law_take", "_law_take", "_law_take", defArgs (topS 74), defBody (topS 74), defScope (topS 74), [], []⟩
def d__law_many : He5.DefA := ⟨fun K => He.ga K "_law_many", "_law_many", "_law_many", defArgs (topS 75), defBody (topS 75), defScope (topS 75), [], []⟩
def d__law_mixed : He5.DefA := ⟨fun K => He.ga K "_law_mixed", "_law_mixed", "_law_mixed", defArgs (topS 76), defBody (topS 76), defScope (topS 76), [], []⟩
def d__law_line_net : He5.DefA := ⟨fun K => He.ga K "_law_line_net", "_law_line_net", "_law_line_net", defArgs (topS 77), defBody (topS 77), defScope (topS 77), [], []⟩
def d__law_built : He5.DefA := ⟨fun K => He.ga K "_law_built", "_law_built", "_law_built", defArgs (topS 78), defBody (topS 78), defScope (topS 78), [], []⟩
def d__law_ends : He5.DefA := ⟨fun K => He.ga K "_law_ends", "_law_ends", "_law_ends", defArgs (topS 79), defBody (topS 79), defScope (topS 79), [], []⟩
def d__law_ways : He5.DefA := ⟨fun K => He.ga K "_law_ways", "_law_ways", "_law_ways", defArgs (topS 80), defBody (topS 80), defScope (topS 80), [], []⟩
def d__law_course : He5.DefA := ⟨fun K => He.ga K "_law_course", "_law_course", "_law_course", defArgs (topS 81), defBody (topS 81), defScope (topS 81), [], []⟩
def d__law_lanes : He5.DefA := ⟨fun K => He.ga K "_law_lanes", "_law_lanes", "_law_lanes", defArgs (topS 82), defBody (topS 82), defScope (topS 82), [], []⟩
def d__law_tree : He5.DefA := ⟨fun K => He.ga K "_law_tree", "_law_tree", "_law_tree", defArgs (topS 83), defBody (topS 83), defScope (topS 83), [], []⟩
def d__law_atom : He5.DefA := ⟨fun K => He.ga K "_law_atom", "_law_atom", "_law_atom", defArgs (topS 84), defBody (topS 84), defScope (topS 84), [], []⟩
def d__law_pattern : He5.DefA := ⟨fun K => He.ga K "_law_pattern", "_law_pattern", "_law_pattern", defArgs (topS 85), defBody (topS 85), defScope (topS 85), [], []⟩
def d__law_machine : He5.DefA := ⟨fun K => He.ga K "_law_machine", "_law_machine", "_law_machine", defArgs (topS 86), defBody (topS 86), defScope (topS 86), [], []⟩
def d__law_crossed : He5.DefA := ⟨fun K => He.ga K "_law_crossed", "_law_crossed", "_law_crossed", defArgs (topS 87), defBody (topS 87), defScope (topS 87), [], []⟩
def d__law_takes : He5.DefA := ⟨fun K => He.ga K "_law_takes", "_law_takes", "_law_takes", defArgs (topS 88), defBody (topS 88), defScope (topS 88), [], []⟩
def d__law_led : He5.DefA := ⟨fun K => He.ga K "_law_led", "_law_led", "_law_led", defArgs (topS 89), defBody (topS 89), defScope (topS 89), [], []⟩
def d__law_done : He5.DefA := ⟨fun K => He.ga K "_law_done", "_law_done", "_law_done", defArgs (topS 90), defBody (topS 90), defScope (topS 90), [], []⟩
def d__law_row_tree : He5.DefA := ⟨fun K => He.ga K "_law_row_tree", "_law_row_tree", "_law_row_tree", defArgs (topS 91), defBody (topS 91), defScope (topS 91), [], []⟩
def d__law_stretch : He5.DefA := ⟨fun K => He.ga K "_law_stretch", "_law_stretch", "_law_stretch", defArgs (topS 92), defBody (topS 92), defScope (topS 92), [], []⟩
def d__law_asking : He5.DefA := ⟨fun K => He.ga K "_law_asking", "_law_asking", "_law_asking", defArgs (topS 93), defBody (topS 93), defScope (topS 93), [], []⟩
def d__law_is_run : He5.DefA := ⟨fun K => He.ga K "_law_is_run", "_law_is_run", "_law_is_run", defArgs (topS 94), defBody (topS 94), defScope (topS 94), [], []⟩
def d__law_used : He5.DefA := ⟨fun K => He.ga K "_law_used", "_law_used", "_law_used", defArgs (topS 95), defBody (topS 95), defScope (topS 95), [], []⟩
def d__law_least_run : He5.DefA := ⟨fun K => He.ga K "_law_least_run", "_law_least_run", "_law_least_run", defArgs (topS 96), defBody (topS 96), defScope (topS 96), [], []⟩
def d__law_drawn_run : He5.DefA := ⟨fun K => He.ga K "_law_drawn_run", "_law_drawn_run", "_law_drawn_run", defArgs (topS 97), defBody (topS 97), defScope (topS 97), [], []⟩
def d__law_run_shows : He5.DefA := ⟨fun K => He.ga K "_law_run_shows", "_law_run_shows", "_law_run_shows", defArgs (topS 98), defBody (topS 98), defScope (topS 98), [], []⟩
def d__law_told : He5.DefA := ⟨fun K => He.ga K "_law_told", "_law_told", "_law_told", defArgs (topS 99), defBody (topS 99), defScope (topS 99), [], []⟩
def d__law_lot : He5.DefA := ⟨fun K => He.ga K "_law_lot", "_law_lot", "_law_lot", defArgs (topS 100), defBody (topS 100), defScope (topS 100), [], []⟩
def d__law_right : He5.DefA := ⟨fun K => He.ga K "_law_right", "_law_right", "_law_right", defArgs (topS 101), defBody (topS 101), defScope (topS 101), [], []⟩
def d__law_emptied : He5.DefA := ⟨fun K => He.ga K "_law_emptied", "_law_emptied", "_law_emptied", defArgs (topS 102), defBody (topS 102), defScope (topS 102), [], []⟩
def d_law : He5.DefA := ⟨fun K => He.ga K "law", "law", "law", defArgs (topS 103), defBody (topS 103), defScope (topS 103), [], []⟩
def d_Machine_takes : He5.DefA := ⟨fun K => He.ma K (He.ga K "Machine") "takes", "takes", "Machine.takes", defArgs (inClass (topS 14) 1), defBody (inClass (topS 14) 1), defScope (inClass (topS 14) 1), [], []⟩
def d_Machine_is_behind : He5.DefA := ⟨fun K => He.ma K (He.ga K "Machine") "is_behind", "is_behind", "Machine.is_behind", defArgs (inClass (topS 14) 3), defBody (inClass (topS 14) 3), defScope (inClass (topS 14) 3), [], []⟩
def d_Machine_is_done : He5.DefA := ⟨fun K => He.ma K (He.ga K "Machine") "is_done", "is_done", "Machine.is_done", defArgs (inClass (topS 14) 6), defBody (inClass (topS 14) 6), defScope (inClass (topS 14) 6), [], []⟩
def d_Machine_begun : He5.DefA := ⟨fun K => He.ma K (He.ga K "Machine") "begun", "begun", "Machine.begun", defArgs (inClass (topS 14) 4), defBody (inClass (topS 14) 4), defScope (inClass (topS 14) 4), [], []⟩
def d_Net_start_of : He5.DefA := ⟨fun K => He.ma K (He.ga K "Net") "start_of", "start_of", "Net.start_of", defArgs (inClass (topS 30) 5), defBody (inClass (topS 30) 5), defScope (inClass (topS 30) 5), [], []⟩
def d_Net_end_of : He5.DefA := ⟨fun K => He.ma K (He.ga K "Net") "end_of", "end_of", "Net.end_of", defArgs (inClass (topS 30) 6), defBody (inClass (topS 30) 6), defScope (inClass (topS 30) 6), [], []⟩
def d_Net_out_of : He5.DefA := ⟨fun K => He.ma K (He.ga K "Net") "out_of", "out_of", "Net.out_of", defArgs (inClass (topS 30) 7), defBody (inClass (topS 30) 7), defScope (inClass (topS 30) 7), [], []⟩
def d_Net_copy : He5.DefA := ⟨fun K => He.ma K (He.ga K "Net") "copy", "copy", "Net.copy", defArgs (inClass (topS 30) 8), defBody (inClass (topS 30) 8), defScope (inClass (topS 30) 8), [], []⟩
def d_Net_post : He5.DefA := ⟨fun K => He.ma K (He.ga K "Net") "post", "post", "Net.post", defArgs (inClass (topS 30) 3), defBody (inClass (topS 30) 3), defScope (inClass (topS 30) 3), [], []⟩
def d_Net_lane : He5.DefA := ⟨fun K => He.ma K (He.ga K "Net") "lane", "lane", "Net.lane", defArgs (inClass (topS 30) 4), defBody (inClass (topS 30) 4), defScope (inClass (topS 30) 4), [], []⟩
def d_Pattern_add : He5.DefA := ⟨fun K => He.ma K (He.ga K "Pattern") "__add__", "__add__", "Pattern.__add__", defArgs (inClass (topS 55) 6), defBody (inClass (topS 55) 6), defScope (inClass (topS 55) 6), [], []⟩
def d_Pattern_or : He5.DefA := ⟨fun K => He.ma K (He.ga K "Pattern") "__or__", "__or__", "Pattern.__or__", defArgs (inClass (topS 55) 7), defBody (inClass (topS 55) 7), defScope (inClass (topS 55) 7), [], []⟩
def d_Net_neg : He5.DefA := ⟨fun K => He.ma K (He.ga K "Net") "__neg__", "__neg__", "Net.__neg__", defArgs (inClass (topS 30) 17), defBody (inClass (topS 30) 17), defScope (inClass (topS 30) 17), [], []⟩
def d_Machine_init : He5.DefA := ⟨fun K => He.ma K (He.ga K "Machine") "__init__", "__init__", "Machine.__init__", defArgs (inClass (topS 14) 0), defBody (inClass (topS 14) 0), defScope (inClass (topS 14) 0), [], []⟩
def d_Pattern_init : He5.DefA := ⟨fun K => He.ma K (He.ga K "Pattern") "__init__", "__init__", "Pattern.__init__", defArgs (inClass (topS 55) 0), defBody (inClass (topS 55) 0), defScope (inClass (topS 55) 0), [], []⟩
def d_Course_init : He5.DefA := ⟨fun K => He.ma K (He.ga K "Course") "__init__", "__init__", "Course.__init__", defArgs (inClass (topS 64) 0), defBody (inClass (topS 64) 0), defScope (inClass (topS 64) 0), [], []⟩
def d_Net_init : He5.DefA := ⟨fun K => He.ma K (He.ga K "Net") "__init__", "__init__", "Net.__init__", defArgs (inClass (topS 30) 0), defBody (inClass (topS 30) 0), defScope (inClass (topS 30) 0), [.adr (He.dflAt ("Net", some "__init__") 0), .non], []⟩
def d_Brought_init : He5.DefA := ⟨fun K => He.ma K (He.ga K "Brought") "__init__", "__init__", "Brought.__init__", defArgs (inClass (topS 12) 0), defBody (inClass (topS 12) 0), defScope (inClass (topS 12) 0), [], []⟩
def d_Net_posts : He5.DefA := ⟨fun K => propG K (He.ga K "Net") "posts", "posts", "Net.posts", defArgs (inClass (topS 30) 1), defBody (inClass (topS 30) 1), defScope (inClass (topS 30) 1), [], []⟩
def d_Net_lanes : He5.DefA := ⟨fun K => propG K (He.ga K "Net") "lanes", "lanes", "Net.lanes", defArgs (inClass (topS 30) 2), defBody (inClass (topS 30) 2), defScope (inClass (topS 30) 2), [], []⟩
def fnL0 : List He5.DefA := [d_first_missing, d_is_name, d_check_lanes, d_crossed, d_read_tree, d_made_machine, d_joined, d_repeated, d_optional, d_any_of, d_none_of, d_word_pattern, d_as_pattern, d_machine_of, d_reached_posts, d_posts_before, d_lanes_of, d_check_known, d_check_used, d_shortest_run]
def fnL1 : List He5.DefA := [d_suite, d__law_cell, d__law_pool, d__law_take, d__law_many, d__law_mixed, d__law_line_net, d__law_built, d__law_ends, d__law_ways, d__law_course, d__law_lanes, d__law_tree, d__law_atom, d__law_pattern, d__law_machine, d__law_crossed, d__law_takes, d__law_led, d__law_done]
def fnL2 : List He5.DefA := [d__law_row_tree, d__law_stretch, d__law_asking, d__law_is_run, d__law_used, d__law_least_run, d__law_drawn_run, d__law_run_shows, d__law_told, d__law_lot, d__law_right, d__law_emptied, d_law, d_Machine_takes, d_Machine_is_behind, d_Machine_is_done, d_Machine_begun, d_Net_start_of, d_Net_end_of, d_Net_out_of]
def fnL3 : List He5.DefA := [d_Net_copy, d_Net_post, d_Net_lane, d_Pattern_add, d_Pattern_or, d_Net_neg, d_Machine_init, d_Pattern_init, d_Course_init, d_Net_init, d_Brought_init, d_Net_posts, d_Net_lanes]
def fnL : List He5.DefA := fnL0 ++ (fnL1 ++ (fnL2 ++ (fnL3)))
def faL0 : List He.Fa := [.glo "first_missing", .glo "is_name", .glo "check_lanes", .glo "crossed", .glo "read_tree", .glo "made_machine", .glo "joined", .glo "repeated", .glo "optional", .glo "any_of", .glo "none_of", .glo "word_pattern", .glo "as_pattern", .glo "machine_of", .glo "reached_posts", .glo "posts_before", .glo "lanes_of", .glo "check_known", .glo "check_used", .glo "shortest_run"]
def faL1 : List He.Fa := [.glo "suite", .glo "_law_cell", .glo "_law_pool", .glo "_law_take", .glo "_law_many", .glo "_law_mixed", .glo "_law_line_net", .glo "_law_built", .glo "_law_ends", .glo "_law_ways", .glo "_law_course", .glo "_law_lanes", .glo "_law_tree", .glo "_law_atom", .glo "_law_pattern", .glo "_law_machine", .glo "_law_crossed", .glo "_law_takes", .glo "_law_led", .glo "_law_done"]
def faL2 : List He.Fa := [.glo "_law_row_tree", .glo "_law_stretch", .glo "_law_asking", .glo "_law_is_run", .glo "_law_used", .glo "_law_least_run", .glo "_law_drawn_run", .glo "_law_run_shows", .glo "_law_told", .glo "_law_lot", .glo "_law_right", .glo "_law_emptied", .glo "law", .glo "Machine", .glo "Pattern", .glo "Net", .glo "Course", .glo "Brought", .free "len", .free "range"]
def faL3 : List He.Fa := [.free "any", .free "all", .free "tuple", .free "list", .free "dict", .free "int", .free "str", .free "isinstance", .free "enumerate", .free "zip", .str "LETTERS" "abcdefghijklmnopqrstuvwxyz", .str "DIGITS" "0123456789", .int "LONGEST" 8, .cls "Machine", .cls "Pattern", .cls "Net", .cls "Course", .noat "Machine" "atoms", .noat "Machine" "firsts", .noat "Machine" "lasts"]
def faL4 : List He.Fa := [.noat "Machine" "pairs", .noat "Machine" "is_optional", .noat "Pattern" "tree", .noat "Net" "order", .noat "Net" "ends_by_lane", .noat "Course" "base", .noat "Course" "start", .noat "Course" "ends", .noat "Brought" "name", .meth "Machine" "takes", .meth "Machine" "is_behind", .meth "Machine" "is_done", .meth "Machine" "begun", .meth "Net" "start_of", .meth "Net" "end_of", .meth "Net" "out_of", .meth "Net" "copy", .meth "Net" "post", .meth "Net" "lane", .meth "Pattern" "__add__"]
def faL5 : List He.Fa := [.meth "Pattern" "__or__", .meth "Net" "__neg__", .mkr "Machine", .mkr "Pattern", .mkr "Course", .mkr "Net", .exm "Brought" "Brought" true]
def faL : List He.Fa := faL0 ++ (faL1 ++ (faL2 ++ (faL3 ++ (faL4 ++ (faL5)))))
/-! ### where the head looks: the module's names, the classes' own names, codes, getters -/
def r1 (o : Obj) : List Addr := match o.data with
  | .func fd => He.refV fd.code ++ He.refV fd.defaults
  | .cls cd => [cd.ns]
  | .dict es _ => es.toList.flatMap fun e => He.refV e.val
  | .seq its _ => its.toList.flatMap He.refV
  | .fields (.mk (.ref a :: _)) => [a]
  | _ => []
def rs (g : Addr → Option Obj) : List Addr → List Addr
  | [] => []
  | a :: r => match g a with
    | some o => r1 o ++ rs g r
    | none => rs g r
def asK (g : Addr → Option Obj) : List Addr :=
  let l1 := rs g [mainGlobals]
  let l2 := rs g l1
  let l3 := rs g l2
  let l4 := rs g l3
  let l5 := rs g l4
  mainGlobals :: (l1 ++ (l2 ++ (l3 ++ (l4 ++ l5))))
/-! ### the Hook: these facts, the defs, the law's table -/
abbrev lawP : He.Defn := ("law", none)
def obsK (K : PySem.W.Frag) (g : Addr → Option Obj) : He.AlD := ((faL.all fun f => f.ok K) && ((fnL.all fun d => d.ok K) && (exB K && He.tabsB g [lawP] K)), fnL.map fun d => He5.fnA K (d.at_ K))
def valK : He.AlD := (true, fnL.map He5.DefA.val)
structure SaysK (h : Heap) (K : PySem.W.Frag) : Prop where
  a : He5.SaysA faL fnL K
  more : exB K = true
  hd : PySem.W.codeHdIn K (He.cT K lawP).1 (He.cT K lawP).2 = true
  out : K.lookup (He.cT K lawP).2 = none
  empty : h.get? (He.cT K lawP).2 = some { cls := .none, data := .fields #[] }
theorem saysK_of {h : Heap} (e : obsK (He.frT h.get? (asK h.get?)) h.get? = valK) : SaysK h (He.frT h.get? (asK h.get?)) := by
  generalize hK : He.frT h.get? (asK h.get?) = K at e
  have e1 := congrArg (fun z : He.AlD => z.1) e
  have e2 : fnL.map (fun d => He5.fnA K (d.at_ K)) = fnL.map He5.DefA.val := congrArg (fun z : He.AlD => z.2) e
  obtain ⟨h1, h2⟩ := He.ba (show ((faL.all fun f => f.ok K) && ((fnL.all fun d => d.ok K) && (exB K && He.tabsB h.get? [lawP] K))) = true from e1)
  obtain ⟨h2, h3⟩ := He.ba h2
  obtain ⟨h3, h4⟩ := He.ba h3
  obtain ⟨t1, t2⟩ := He.ba (List.all_eq_true.mp h4 lawP List.mem_cons_self)
  have hs : He5.SaysA faL fnL K := by
    show ((faL.all fun f => f.ok K) && fnL.all fun d => d.ok K, fnL.map fun d => He5.fnA K (d.at_ K)) = (true, fnL.map He5.DefA.val)
    rw [h1, h2, e2]
    rfl
  have key : ∃ o, h.get? (He.cT K lawP).2 = some o ∧ He.emptyTab o = true := by
    cases q : h.get? (He.cT K lawP).2 with
    | none => rw [q] at t2; cases t2
    | some o => rw [q] at t2; exact ⟨o, rfl, t2⟩
  obtain ⟨o, q, z⟩ := key
  exact ⟨hs, h3, t1, by rw [← hK] at q ⊢; exact He.frT_none q z, by rw [q, He.emptyTab_eq z]⟩
def hookK : PySem.W.Hook where
  α := He.AlD
  obs := fun s => obsK (He.frT s.heap.get? (asK s.heap.get?)) s.heap.get?
  val := fun _ => valK
  says := fun _ h => ∃ K : PySem.W.Frag, K.In h ∧ SaysK h K
  of := fun _ _ e => ⟨_, He.frT_in, saysK_of e⟩
  keeps := fun _ _ _ ⟨K, hK, c⟩ k => ⟨K, PySem.W.Frag.In.keeps hK k, ⟨c.a, c.more, c.hd, c.out, k _ _ c.empty⟩⟩
def obK (s : PySem.W.SharedT) : He.AlD := obsK (He.frT (HandSHeadRun.getT s) (asK (HandSHeadRun.getT s))) (HandSHeadRun.getT s)
theorem obK_eq (s : PySem.W.SharedT) : obK s = hookK.obs s.abs := by
  have e : HandSHeadRun.getT s = s.abs.heap.get? := funext (HandSHeadRun.getT_eq s)
  unfold obK
  rw [e]
  rfl
end K48
/-! ## KHR -/
set_option maxHeartbeats 0
namespace K48
namespace Head
open PySem PySem.W PySem.Calls PyProof.Rows
abbrev R : OpenRow := OpenLaw.row PySem.Challenge.rw_alsoshown_k48_whole_suites
abbrev qv : Program := view R.prog [103]
def loose0 : List PySem.Str := ["_wall", "ShowError", "BadName", "NameTaken", "NoPost", "NoLane", "Clash", "EmptyWalk", "BadText", "BadNumber", "NoRun", "Brought", "Machine", "made_machine", "read_tree", "crossed", "accepts", "LETTERS", "DIGITS", "LONGEST", "is_name", "is_whole", "is_count", "first_missing", "are_strings", "are_names", "Net", "made_of_both", "is_within", "reached_posts"]
def loose1 : List PySem.Str := ["ENDS", "sign_at", "read_pattern", "behind_row", "read_row", "read_item", "read_name", "read_names", "read_group", "expect", "in_order", "check_lanes", "joined", "opposite", "tree_names", "text_of", "atom_text", "Pattern", "any_of", "none_of", "word_pattern", "repeated", "optional", "as_pattern", "machine_of", "Course", "posts_before", "lanes_of", "check_known", "check_used"]
def loose2 : List PySem.Str := ["shortest_run", "suite", "_law_cell", "_law_pool", "_law_take", "_law_many", "_law_mixed", "_law_line_net", "_law_built", "_law_ends", "_law_ways", "_law_course", "_law_lanes", "_law_tree", "_law_atom", "_law_pattern", "_law_machine", "_law_crossed", "_law_takes", "_law_led", "_law_done", "_law_row_tree", "_law_stretch", "_law_asking", "_law_is_run", "_law_used", "_law_least_run", "_law_drawn_run", "_law_run_shows", "_law_told"]
def loose3 : List PySem.Str := ["_law_lot", "_law_right", "_law_emptied"]
def loose : List PySem.Str := loose0 ++ (loose1 ++ (loose2 ++ (loose3)))
/-- the run's looks and its facts, shown apart: each takes less of the kernel at once -/
theorem run_both {w : World} (a : HandSHeadRun.RunEq R qv Hook.none (fun _ => ()) 9000 loose w)
    (b : ∀ os : OsState, (HandSHeadRun.endF (HandSHeadRun.stepQ (HandSHeadRun.denQ HandSHeadRun.tabQ) R.prog w) 9000 R.prog w os).map obK = some valK) : HandSHeadRun.RunEq R qv hookK obK 9000 loose w := by
  intro os
  have ha := a os
  have hb := b os
  revert ha hb
  generalize HandSHeadRun.endF (HandSHeadRun.stepQ (HandSHeadRun.denQ HandSHeadRun.tabQ) R.prog w) 9000 R.prog w os = x
  intro ha hb
  cases x with
  | none => cases hb
  | some s =>
    have h1 := Option.some.inj ha
    have h2 : obK s = valK := Option.some.inj hb
    obtain ⟨e1, e2⟩ := Prod.mk.inj h1
    obtain ⟨e2, _⟩ := Prod.mk.inj e2
    exact congrArg some (Prod.ext e1 (Prod.ext e2 h2))
theorem looksF0 (w : World) : HandSHeadRun.RunEq R qv Hook.none (fun _ => ()) 9000 loose (w.withFollow "special-get-raises" false) := by
  intro os
  kernel_rfl
theorem looksT0 (w : World) : HandSHeadRun.RunEq R qv Hook.none (fun _ => ()) 9000 loose (w.withFollow "special-get-raises" true) := by
  intro os
  kernel_rfl
theorem factsF0 (w : World) (os : OsState) : (HandSHeadRun.endF (HandSHeadRun.stepQ (HandSHeadRun.denQ HandSHeadRun.tabQ) R.prog (w.withFollow "special-get-raises" false)) 9000 R.prog (w.withFollow "special-get-raises" false) os).map obK = some valK := by
  kernel_rfl
theorem factsT0 (w : World) (os : OsState) : (HandSHeadRun.endF (HandSHeadRun.stepQ (HandSHeadRun.denQ HandSHeadRun.tabQ) R.prog (w.withFollow "special-get-raises" true)) 9000 R.prog (w.withFollow "special-get-raises" true) os).map obK = some valK := by
  kernel_rfl
theorem run (w : World) : HandSHeadRun.RunEq R qv hookK obK 9000 loose w := byRow2 "special-get-raises" (P := fun w => HandSHeadRun.RunEq R qv hookK obK 9000 loose w) (fun w => run_both (looksF0 w) (factsF0 w)) (fun w => run_both (looksT0 w) (factsT0 w)) w
abbrev rowL : OpenLaw := PySem.Challenge.rw_alsoshown_k48_whole_suites
abbrev dLaw : DefRec := HandSHeadRun.topDef R.prog 103
/-- the end, but for the law's own walk -/
theorem end_of (call : WalkO qv loose (XL qv []) hookK.says R.toRowW dLaw [] (fun f vs => PySem.call f vs)) : PySem.Challenge.rw_alsoshown_k48_whole_suites.Holds := by
  w_on; o_law
  refine HandSHeadRun.head_any (r := R) (q := qv) (H := hookK) (ob := obK) (M := 9000) (loose := loose) (d := dLaw) (kwd := []) obK_eq
    (by kernel_rfl) (fun s => by kernel_rfl) run (by kernel_rfl) (by kernel_rfl) (by kernel_rfl) (by rfl) (by first | assumption | decide +kernel) (by decide +kernel) ⟨rfl, rfl, rfl, rfl, rfl, by decide +kernel⟩ ?hw call
  case hw => w_witness2
end Head
end K48
/-! ## KN -/
set_option maxHeartbeats 4000000
namespace K48
open PySem L2
/-! ### dicts whose keys are nested tuples, tracked as things of their own -/
mutual
inductive NkV (H : Hp) : V → NestedKey → Prop
  | num (i : Int) : NkV H (.int i) (.num i)
  | text (x : Str) : NkV H (.str x) (.text x)
  | tup {a : Addr} {vs : List V} {ks : List NestedKey} : H a = some (.tup vs) → NkL H vs ks → NkV H (.ref a) (.tup ks)
inductive NkL (H : Hp) : List V → List NestedKey → Prop
  | nil : NkL H [] []
  | cons {v : V} {vs : List V} {k : NestedKey} {ks : List NestedKey} : NkV H v k → NkL H vs ks → NkL H (v :: vs) (k :: ks)
end
mutual
theorem NkV.mono {H H' : Hp} (s : Same H H') : ∀ (k : NestedKey) (v : V), NkV H v k → NkV H' v k
  | .none, _, h => by cases h
  | .num i, _, h => by cases h; exact .num i
  | .text x, _, h => by cases h; exact .text x
  | .tup ks, _, h => by
    cases h with
    | tup e l => exact .tup (s _ _ e) (NkL.mono s ks _ l)
theorem NkL.mono {H H' : Hp} (s : Same H H') : ∀ (ks : List NestedKey) (vs : List V), NkL H vs ks → NkL H' vs ks
  | [], _, h => by cases h; exact .nil
  | k :: ks, _, h => by
    cases h with
    | cons h1 h2 => exact .cons (NkV.mono s k _ h1) (NkL.mono s ks _ h2)
end
mutual
theorem NkV.is {P : Program} {w : World} {H : Hp} {h : Heap} (ok : HOk P w H h) : ∀ (k : NestedKey) (v : V) (u : Value), NkV H v k → RelV v u → NestedIs h k u
  | .none, _, _, q, _ => by cases q
  | .num i, _, _, q, r => by
    cases q
    obtain ⟨t, e⟩ := (show ∃ t, _ = Value.int i t from r)
    rw [e]
    exact .int i t
  | .text x, _, _, q, r => by
    cases q
    obtain ⟨t, e⟩ := (show ∃ t, _ = Value.str x t from r)
    rw [e]
    exact .text x t
  | .tup ks, _, _, q, r => by
    cases q with
    | @tup a vs _ e l =>
      cases (show _ = Value.ref a from r)
      obtain ⟨_, its, rv, o, h1, h2, n, h3⟩ := (show ObjOk P w H h a (.tup vs) from ok a _ e)
      exact .tup h1 h2 h3 (by simpa using NkL.is ok ks vs its l rv)
theorem NkL.is {P : Program} {w : World} {H : Hp} {h : Heap} (ok : HOk P w H h) : ∀ (ks : List NestedKey) (vs : List V) (us : List Value), NkL H vs ks → Vals vs us → NestedAll h ks us
  | [], _, _, q, r => by cases q; cases r; exact .nil
  | k :: ks, _, _, q, r => by
    cases q with
    | cons q1 q2 =>
      cases r with
      | cons r1 r2 => exact .cons (NkV.is ok k _ _ q1 r1) (NkL.is ok ks _ _ q2 r2)
end
/-- a dict's entries: the key, where its own tuple stands, the value -/
abbrev NEnt := NestedKey × Addr × V
abbrev NRel : NEnt → NestedKey × Addr × Value → Prop := fun p q => p.1 = q.1 ∧ p.2.1 = q.2.1 ∧ RelV p.2.2 q.2.2
def dN (P : Program) (w : World) (d : Addr) (kvs : List NEnt) : HO := .ext fun h => (d == sysModules) = false ∧ kvs.length ≤ sizeLine ∧ ∃ xs : List (NestedKey × Addr × Value), Paired NRel kvs xs ∧
  ∃ o es ep, h.get? d = some o ∧ o.ExactDict ∧ o.data = .dict es ep ∧ es.toList = xs.map (entryOfKey (nestedKind P w)) ∧ (xs.map (·.1)).Nodup
/-- the keys' tuples stand -/
def NKeys (H : Hp) (kvs : List NEnt) : Prop := ∀ e ∈ kvs, NkV H (.ref e.2.1) e.1 ∧ e.1.depth ≤ 8
theorem NKeys.mono {H H' : Hp} {kvs : List NEnt} (s : Same H H') (h : NKeys H kvs) : NKeys H' kvs := fun e he => ⟨NkV.mono s _ _ (h e he).1, (h e he).2⟩
def atN (kvs : List NEnt) (k : NestedKey) : Option V := (kvs.find? fun e => decide (e.1 = k)).map fun e => e.2.2
def putN (kvs : List NEnt) (k : NestedKey) (b : Addr) (v : V) : List NEnt := if (atN kvs k).isSome then kvs.map fun e => if e.1 = k then (e.1, e.2.1, v) else e else kvs ++ [(k, b, v)]
theorem atN_nil {k : NestedKey} : atN [] k = none := rfl
theorem atN_cons {e : NEnt} {r : List NEnt} {k : NestedKey} : atN (e :: r) k = if e.1 = k then some e.2.2 else atN r k := by
  unfold atN
  rw [List.find?_cons]
  by_cases h : e.1 = k
  · simp [h]
  · simp [h]
theorem atN_none {kvs : List NEnt} {k : NestedKey} : atN kvs k = none ↔ k ∉ kvs.map (·.1) := by
  induction kvs with
  | nil => simp [atN_nil]
  | cons e r ih =>
    rw [atN_cons, List.map_cons, List.mem_cons]
    by_cases h : e.1 = k
    · rw [if_pos h]
      simp [h]
    · rw [if_neg h, ih]
      have h' : ¬ k = e.1 := fun z => h z.symm
      simp [h']
theorem atN_mem {kvs : List NEnt} {k : NestedKey} {v : V} (h : atN kvs k = some v) : ∃ b, (k, b, v) ∈ kvs := by
  unfold atN at h
  obtain ⟨e, he, hv⟩ := Option.map_eq_some_iff.mp h
  have h1 := List.find?_some he
  have h2 := List.mem_of_find?_eq_some he
  have h3 : e.1 = k := of_decide_eq_true h1
  obtain ⟨k', b, v'⟩ := e
  cases h3
  cases hv
  exact ⟨b, h2⟩
theorem putN_new {kvs : List NEnt} {k : NestedKey} {b : Addr} {v : V} (h : atN kvs k = none) : putN kvs k b v = kvs ++ [(k, b, v)] := by
  unfold putN
  rw [h]
  rfl
theorem putN_len (kvs : List NEnt) (k : NestedKey) (b : Addr) (v : V) : (putN kvs k b v).length ≤ kvs.length + 1 := by
  unfold putN
  split
  · rw [List.length_map]; omega
  · rw [List.length_append]; exact Nat.le_refl _
section
variable {P : Program} {w : World} {H : Hp} {h : Heap} {d : Addr} {kvs : List NEnt} {xs : List (NestedKey × Addr × Value)}
theorem nrel_at (r : Paired NRel kvs xs) (k : NestedKey) : RelO (atN kvs k) ((atKey xs k).map (·.2)) := by
  induction r with
  | nil => exact True.intro
  | @cons p q ps qs hq t ih =>
    obtain ⟨h1, _, h3⟩ := hq
    rw [atN_cons]
    unfold atKey
    rw [List.find?_cons]
    by_cases e : p.1 = k
    · have e' : q.1 = k := h1.symm.trans e
      rw [if_pos e]
      simp only [e', decide_true, Option.map_some]
      exact h3
    · have e' : ¬ q.1 = k := fun z => e (h1.trans z)
      rw [if_neg e]
      simp only [e', decide_false]
      exact ih
theorem nrel_put (r : Paired NRel kvs xs) (k : NestedKey) (b : Addr) {v : V} {u : Value} (rv : RelV v u) : Paired NRel (putN kvs k b v) (storedH xs k b u) := by
  have e : (atN kvs k).isSome = (atKey xs k).isSome := by
    have q := (nrel_at r k).isSome_eq
    rw [Option.isSome_map] at q
    exact q
  unfold putN storedH
  rw [e]
  by_cases q : (atKey xs k).isSome = true
  · rw [if_pos q, if_pos q]
    clear q e
    induction r with
    | nil => exact .nil
    | @cons p q ps qs hq t ih =>
      rw [List.map_cons, List.map_cons]
      refine .cons ?_ ih
      obtain ⟨h1, h2, h3⟩ := hq
      unfold putAt
      by_cases e : p.1 = k
      · rw [if_pos e, if_pos (h1.symm.trans e)]
        exact ⟨h1, h2, rv⟩
      · rw [if_neg e, if_neg (fun z => e (h1.trans z))]
        exact ⟨h1, h2, h3⟩
  · rw [if_neg q, if_neg q]
    exact Paired.snoc r ⟨rfl, rfl, rv⟩
theorem dn_ok {h : Heap} (z : kvs.length ≤ sizeLine) (hd : (d == sysModules) = false) (r : Paired NRel kvs xs) {o : Obj} {es : Array DictEntry} {ep : Nat} (h1 : h.get? d = some o) (h2 : o.ExactDict) (h3 : o.data = .dict es ep)
    (h4 : es.toList = xs.map (entryOfKey (nestedKind P w))) (h5 : (xs.map (·.1)).Nodup) : ObjOk P w H h d (dN P w d kvs) :=
  ⟨⟨hd, z, xs, r, o, es, ep, h1, h2, h3, h4, h5⟩, ⟨o, h1⟩, fun _ _ y k => by
    obtain ⟨y1, y2, y3, y4, y5, y6, y7, y8, y9⟩ := y
    exact ⟨y1, y2, y3, y4, y5, y6, y7, k _ y8, y9⟩⟩
theorem dn_rd (ok : HOk P w H h) (e : Rd H d (dN P w d kvs)) (hk : NKeys H kvs) : kvs.length ≤ sizeLine ∧ (d == sysModules) = false ∧ ∃ xs, Paired NRel kvs xs ∧ h.DictOfH (nestedKind P w) d xs := by
  have q : ObjOk P w H h d (dN P w d kvs) := e.ok ok
  obtain ⟨⟨hd, z, xs, r, o, es, ep, h1, h2, h3, h4, h5⟩, _⟩ := q
  refine ⟨z, hd, xs, r, o, es, ep, h1, h2, h3, h4, ?_, h5⟩
  clear h1 h2 h3 h4 h5
  intro y hy
  have key : ∀ {l : List NEnt} {m : List (NestedKey × Addr × Value)}, Paired NRel l m → (∀ e ∈ l, NkV H (.ref e.2.1) e.1 ∧ e.1.depth ≤ 8) → ∀ y ∈ m, (nestedKind P w).is h y.1 y.2.1 := by
    intro l m r
    induction r with
    | nil => intro _ y hy; cases hy
    | @cons p q ps qs hq t ih =>
      intro hl y hy
      rcases List.mem_cons.mp hy with rfl | hy
      · obtain ⟨a, b⟩ := hl p List.mem_cons_self
        rw [hq.1, hq.2.1] at a
        exact ⟨NkV.is ok _ _ _ a rfl, hq.1 ▸ b⟩
      · exact ih (fun e he => hl e (List.mem_cons_of_mem _ he)) y hy
  exact key r hk y hy
end
/-- what is asked of a look-up: the dict, the key -/
def NGet (P : Program) (w : World) (H : Hp) (a : Addr) (y : V) (r : Option V) : Prop := ∃ kvs k b, Rd H a (dN P w a kvs) ∧ NKeys H kvs ∧ y = .ref b ∧ NkV H (.ref b) k ∧ k.depth ≤ 8 ∧ r = atN kvs k
def NPut (P : Program) (w : World) (H : Hp) (a : Addr) (y v : V) (H' : Hp) : Prop := ∃ kvs k b, H a = some (dN P w a kvs) ∧ NKeys H kvs ∧ y = .ref b ∧ NkV H (.ref b) k ∧ k.depth ≤ 8 ∧ kvs.length < sizeLine ∧ H' = upd H a (dN P w a (putN kvs k b v))
section
variable {X : Cx} {pins : List (Addr × Obj)} {σ : St} {H : Hp} {s : Shared} {a : Addr} {y v : V} {u r : Value} {o : Option V} {A : Around} {E : Value → Shared → Prop}
theorem nroom (hu : A.units + 64 < cLine) : (nestedKind X.prog X.w).room A.in1 := by
  show A.units + 1 + 8 < cLine
  omega
theorem ng_getItem {Q : Value → Shared → Prop} (hu : A.units + 64 < cLine) (I : Inv X pins σ H s) (g : NGet X.prog X.w H a y (some v)) (ry : RelV y u) (h : ∀ w' s', Inv X pins σ H s' → RelV v w' → Q w' s') : wpAny (model X.prog X.w) A (getItem (.ref a) u) Q E s := by
  obtain ⟨kvs, k, b, e, hk, ey, hb, hd8, l⟩ := g
  subst ey
  cases (show u = Value.ref b from ry)
  obtain ⟨z, hd, xs, rel, dd⟩ := dn_rd I.hok e hk
  obtain ⟨w', hw, rw'⟩ := RelO.some_of (v := v) (o := (atKey xs k).map (·.2)) (by rw [l]; exact nrel_at rel k)
  obtain ⟨p, hp, hp2⟩ := Option.map_eq_some_iff.mp hw
  refine wpAny_getItem_heap (nroom hu) ⟨NkV.is I.hok _ _ _ hb rfl, hd8⟩ dd hp ?_
  rw [hp2]
  exact h w' _ (I.tok _) rw'
theorem ng_in {Q : Value → Shared → Prop} (hu : A.units + 64 < cLine) (I : Inv X pins σ H s) (g : NGet X.prog X.w H a y o) (ry : RelV y u) (h : ∀ s', Inv X pins σ H s' → Q (.bool o.isSome) s') : wpAny (model X.prog X.w) A (compareOp .In u (.ref a)) Q E s := by
  obtain ⟨kvs, k, b, e, hk, ey, hb, hd8, l⟩ := g
  subst ey
  cases (show u = Value.ref b from ry)
  obtain ⟨z, hd, xs, rel, dd⟩ := dn_rd I.hok e hk
  refine wpAny_in_heap (nroom hu) ⟨NkV.is I.hok _ _ _ hb rfl, hd8⟩ hd dd ?_
  have q := (nrel_at rel k).isSome_eq
  rw [Option.isSome_map] at q
  rw [← q, ← l]
  exact h _ (I.tok _)
theorem ng_notIn {Q : Value → Shared → Prop} (hu : A.units + 64 < cLine) (I : Inv X pins σ H s) (g : NGet X.prog X.w H a y o) (ry : RelV y u) (h : ∀ s', Inv X pins σ H s' → Q (.bool (!o.isSome)) s') : wpAny (model X.prog X.w) A (compareOp .NotIn u (.ref a)) Q E s := by
  obtain ⟨kvs, k, b, e, hk, ey, hb, hd8, l⟩ := g
  subst ey
  cases (show u = Value.ref b from ry)
  obtain ⟨z, hd, xs, rel, dd⟩ := dn_rd I.hok e hk
  have q := (nrel_at rel k).isSome_eq
  rw [Option.isSome_map] at q
  show wpAny _ _ (do return .bool (!(← contains (.ref a) (.ref b)))) Q E s
  refine wpAny_bind (wpAny_contains_heap (nroom hu) ⟨NkV.is I.hok _ _ _ hb rfl, hd8⟩ hd dd (wpAny_pure ?_))
  rw [← q, ← l]
  exact h _ (I.tok _)
theorem ng_setItem {H' : Hp} {Q : Unit → Shared → Prop} (hu : A.units + 64 < cLine) (I : Inv X pins σ H s) (g : NPut X.prog X.w H a y v H') (ry : RelV y u) (rv : RelV v r) (h : ∀ s', Inv X pins σ H' s' → Q () s') : wpAny (model X.prog X.w) A (setItem (.ref a) u r) Q E s := by
  obtain ⟨kvs, k, b, e, hk, ey, hb, hd8, l, eH⟩ := g
  subst ey eH
  cases (show u = Value.ref b from ry)
  obtain ⟨z, hd, xs, rel, dd⟩ := dn_rd I.hok (.of e) hk
  have hz : xs.length ≤ sizeLine := by rw [← Paired.length rel]; exact z
  have hl : (putN kvs k b v).length ≤ sizeLine := by have := putN_len kvs k b v; omega
  refine wpAny_setItem_heap (hsz := hz) (nroom hu) ⟨NkV.is I.hok _ _ _ hb rfl, hd8⟩ dd fun h' dd' hs => h _ ?_
  obtain ⟨q, es, ep, h1, h2, h3, h4, _, h5⟩ := dd'
  exact d_write I (by rw [e]; exact True.intro) hs ⟨q, h1⟩ (dn_ok hl hd (nrel_put rel k b rv) h1 h2 h3 h4 h5)
end
def tNGet (P : Program) (w : World) (td ty : TE) : TE := fun σ H Q => td σ H fun x H1 => ty σ H1 fun y H2 => ∃ a v, x = .ref a ∧ NGet P w H2 a y (some v) ∧ Q v H2
def tNIn (P : Program) (w : World) (ty td : TE) : TE := fun σ H Q => ty σ H fun y H1 => td σ H1 fun x H2 => ∃ a o, x = .ref a ∧ NGet P w H2 a y o ∧ Q (.bl o.isSome) H2
def tNNotIn (P : Program) (w : World) (ty td : TE) : TE := fun σ H Q => ty σ H fun y H1 => td σ H1 fun x H2 => ∃ a o, x = .ref a ∧ NGet P w H2 a y o ∧ Q (.bl (!o.isSome)) H2
def sNPut (P : Program) (w : World) (td ty tv : TE) : TS := fun D σ H => tv σ H fun v H1 => td σ H1 fun x H2 => ty σ H2 fun y H3 => ∃ a H4, x = .ref a ∧ NPut P w H3 a y v H4 ∧ D.nx σ H4
section
variable {X : Cx} {o i value : Expr} {pos pos' : Pos} {td ty tv : TE}
theorem pe_dgetN (hu : X.A.units + 64 < cLine) (ho : PE X o td) (hi : PE X i ty) (hs : NoSl i) : PE X (.Subscript o i pos) (tNGet X.prog X.w td ty) := by
  refine ⟨fun pins s σ H Q I h => ?_⟩
  refine subD_of PySem.F.slot_dict_getitem.lookup hs (thn (ho.run pins s σ H _ I h) fun u s1 ⟨x, H1, I1, rx, q1⟩ => thn (hi.run pins s1 σ H1 _ I1 q1) fun iv s2 ⟨y, H2, I2, ry, a, v, ex, g, q2⟩ => ?_)
  subst ex
  obtain rfl : u = Value.ref a := rx
  have ty : s2.TypeIs (.ref a) "dict" := by
    obtain ⟨kvs, k, b, e, hk, _⟩ := id g
    obtain ⟨_, _, _, _, dd⟩ := dn_rd I2.hok e hk
    exact dd.typeIs
  exact ⟨ty, ng_getItem hu I2 g ry fun w' s3 I3 rw' => ⟨v, H2, I3, rw', q2⟩⟩
theorem pc_dinN (hu : X.A.units + 64 < cLine) (hi : PE X i ty) (ho : PE X o td) : PC X .In i o (tNIn X.prog X.w ty td) := by
  refine ⟨fun pins s σ H Q I h => ?_⟩
  refine thn (hi.run pins s σ H _ I h) fun iv s1 ⟨y, H1, I1, ry, q1⟩ => thn (ho.run pins s1 σ H1 _ I1 q1) fun u s2 ⟨x, H2, I2, rx, a, ov, ex, g, q2⟩ => ?_
  subst ex
  obtain rfl : u = Value.ref a := rx
  exact ng_in hu I2 g ry fun s3 I3 => ⟨.bl ov.isSome, H2, I3, rfl, q2⟩
theorem pc_dnotinN (hu : X.A.units + 64 < cLine) (hi : PE X i ty) (ho : PE X o td) : PC X .NotIn i o (tNNotIn X.prog X.w ty td) := by
  refine ⟨fun pins s σ H Q I h => ?_⟩
  refine thn (hi.run pins s σ H _ I h) fun iv s1 ⟨y, H1, I1, ry, q1⟩ => thn (ho.run pins s1 σ H1 _ I1 q1) fun u s2 ⟨x, H2, I2, rx, a, ov, ex, g, q2⟩ => ?_
  subst ex
  obtain rfl : u = Value.ref a := rx
  exact ng_notIn hu I2 g ry fun s3 I3 => ⟨.bl (!ov.isSome), H2, I3, rfl, q2⟩
theorem ps_dputN (hu : X.A.units + 64 < cLine) (ho : PE X o td) (hi : PE X i ty) (hv : PE X value tv) (hs : swapsWith value (some (.Subscript o i pos')) pos.line X.env = pure false) : PS X (.Assign [.Subscript o i pos'] value pos) (sNPut X.prog X.w td ty tv) := by
  refine ⟨fun pins s σ H D I h => ?_⟩
  refine wpAny_Assign_Subscript (thn (hv.run pins s σ H _ I h) fun r s1 ⟨v, H1, I1, rv, q1⟩ => thn (ho.run pins s1 σ H1 _ I1 q1) fun u s2 ⟨x, H2, I2, rx, q2⟩ => thn (hi.run pins s2 σ H2 _ I2 q2) fun iv s3 ⟨y, H3, I3, ry, a, H4, ex, g, q3⟩ => ?_) hs
  subst ex
  obtain rfl : u = Value.ref a := rx
  exact ng_setItem hu I3 g ry rv fun s4 I4 => ⟨σ, H4, I4, q3⟩
end
/-! ### {} and {k: v} -/
theorem dn_empty {P : Program} {w : World} {H : Hp} (h : Heap) (hb : sysModules < h.objs.size) : ObjOk P w H (h.push { cls := .type "dict", data := .dict #[] }) h.objs.size (dN P w h.objs.size []) :=
  dn_ok (xs := []) (es := #[]) (ep := 0) (Nat.zero_le _) (beq_eq_false_iff_ne.mpr (Ne.symm (Nat.ne_of_lt hb))) .nil (Heap.get?_push_size _ rfl) ⟨rfl, rfl, rfl⟩ rfl rfl List.nodup_nil
def tNNew (P : Program) (w : World) : TE := fun _ H Q => ∀ p, H p = none → Q (.ref p) (upd H p (dN P w p []))
def tNOne (P : Program) (w : World) (tk tv : TE) : TE := fun σ H Q => ∀ p, H p = none → tk σ (upd H p (dN P w p [])) fun y H1 => tv σ H1 fun z H2 => ∃ b k, y = .ref b ∧ NkV H2 (.ref b) k ∧ k.depth ≤ 8 ∧ H2 p = some (dN P w p []) ∧ Q (.ref p) (upd H2 p (dN P w p [(k, b, z)]))
section
variable {X : Cx} {k v : Expr} {pos : Pos} {tk tv : TE}
theorem pe_dnewN : PE X (.Dict [] [] pos) (tNNew X.prog X.w) := ⟨fun pins s σ H Q I h =>
  wpAny_Dict_empty ⟨.ref s.heap.objs.size, _, I.laid (a := s.heap.objs.size) (o := dN X.prog X.w s.heap.objs.size []) (t' := s.toks) (fun _ _ q => Heap.get?_push_of_some _ q) (Nat.le_refl _) (dn_empty s.heap I.big), rfl, h _ (I.hok.fresh (Nat.le_refl _))⟩⟩
theorem pe_disp1N (hu : X.A.units + 64 < cLine) (hk : PE X k tk) (hv : PE X v tv) : PE X (.Dict [some k] [v] pos) (tNOne X.prog X.w tk tv) := by
  refine ⟨fun pins s σ H Q I h => ?_⟩
  have hn := I.hok.fresh (Nat.le_refl s.heap.objs.size)
  have I1 := I.laid (a := s.heap.objs.size) (o := dN X.prog X.w s.heap.objs.size []) (h' := s.heap.push { cls := .type "dict", data := .dict #[] }) (t' := s.toks) (fun _ _ q => Heap.get?_push_of_some _ q) (Nat.le_refl _) (dn_empty s.heap I.big)
  have hr : (nestedKind X.prog X.w).room X.A := by show X.A.units + 8 < cLine; omega
  have e1 : (evalEachOpt [some k] X.env).zip ((evalEach [v] X.env).map fun z : Sem Value => (do let x ← z; standAt pos; pure x : Sem Value)) = [(eval k X.env, (do let x ← eval v X.env; standAt pos; pure x : Sem Value))].map fun p => (some p.1, p.2) := rfl
  rw [arm_eval_Dict, e1, dictDisplay_pairs _ (by simp) (by simp)]
  refine wpAny_bind (wpAny_standAt (wpAny_bind (wpAny_subDictH (knd := nestedKind X.prog X.w) hr (by simp) ?_)))
  unfold evalPairs
  refine wpAny_bind (thn (hk.run pins _ σ _ _ I1 (h _ hn)) fun u s1 ⟨y, H1, I2, ry, q1⟩ => ?_)
  refine wpAny_bind (wpAny_holding (wpAny_bind (thn (hv.run pins s1 σ H1 _ I2 q1) fun r s2 ⟨z, H2, I3, rz, b, kk, ey, hb, h8, hp, q2⟩ => wpAny_bind (wpAny_standAt (wpAny_pure ?_)))))
  unfold evalPairs
  refine wpAny_bind (wpAny_holding (wpAny_pure ?_))
  refine wpAny_pure ?_
  subst ey
  obtain rfl : u = Value.ref b := ry
  obtain ⟨_, hd, xs, rel, dd⟩ := dn_rd I3.hok (.of hp) (fun _ z => absurd z (by simp))
  cases rel
  refine ⟨[(kk, b, r)], ⟨rfl, rfl, ⟨NkV.is I3.hok _ _ _ hb rfl, h8⟩, trivial⟩, dd, fun h' tk dd' hs => wpAny_pure ⟨.ref s.heap.objs.size, _, ?_, rfl, q2⟩⟩
  obtain ⟨q, es, ep, h1, h2, h3, h4, _, h5⟩ := dd'
  exact d_write I3 (by rw [hp]; exact True.intro) hs ⟨q, h1⟩ (dn_ok (by show 1 ≤ sizeLine; decide) hd (.cons ⟨rfl, rfl, rz⟩ .nil) h1 h2 h3 h4 h5)
end
/-! ### a for over such a dict -/
def Itkn (P : Program) (w : World) (d : Addr) (o : Obj) (kvs : List NEnt) : It :=
  ⟨fun i H => (H d = some (.frz o (dN P w d kvs)) ∧ NKeys H kvs) ∧ i < kvs.length, fun i H x H' => H' = H ∧ ∃ k q v, kvs[i]? = some (k, q, v) ∧ x = .ref q, fun i H => (H d = some (.frz o (dN P w d kvs)) ∧ NKeys H kvs) ∧ kvs.length ≤ i⟩
theorem walk_keysN {P : Program} {w : World} {d : Addr} {o : Obj} {kvs : List NEnt} : Walk (Itkn P w d o kvs) kvs.length (fun H => H d = some (.frz o (dN P w d kvs)) ∧ NKeys H kvs) (fun i H x H' => H' = H ∧ ∃ k q v, kvs[i]? = some (k, q, v) ∧ x = .ref q) :=
  ⟨fun _ _ hi q => ⟨q, hi⟩, fun _ q => ⟨q, Nat.le_refl _⟩, fun _ _ _ _ _ _ y => y⟩
section
variable {X : Cx} {pins : List (Addr × Obj)} {σ : St} {H : Hp} {s : Shared} {d : Addr} {o : Obj} {kvs : List NEnt}
theorem frzN (I : Inv X pins σ H s) (h : H d = some (.frz o (dN X.prog X.w d kvs))) (hk : NKeys H kvs) :
    (d == sysModules) = false ∧ s.heap.get? d = some o ∧ o.ExactDict ∧ ∃ (es : Array DictEntry) (ep : Nat), o.data = .dict es ep ∧ es.size = kvs.length ∧ ∀ (i : Nat) (k : NestedKey) (q : Addr) (v : V), kvs[i]? = some (k, q, v) → ∃ en, es[i]? = some en ∧ en.key = .ref q := by
  have q : ObjOk X.prog X.w H s.heap d (.frz o (dN X.prog X.w d kvs)) := I.hok d _ h
  obtain ⟨g, ⟨hd, z, xs, r, o', es, ep, h1, h2, h3, h4, h5⟩, _⟩ := q
  rw [g] at h1
  cases h1
  have l1 : es.size = xs.length := size_of_entries h4
  have l2 : kvs.length = xs.length := Paired.length r
  refine ⟨hd, g, h2, es, ep, h3, by omega, fun i k q v e => ?_⟩
  have at_ : ∀ {l : List NEnt} {m : List (NestedKey × Addr × Value)} {i : Nat}, Paired NRel l m → l[i]? = some (k, q, v) → ∃ y, m[i]? = some y ∧ y.2.1 = q := by
    intro l m i r
    induction r generalizing i with
    | nil => intro z; simp at z
    | @cons p w ps qs hq t ih =>
      intro z
      cases i with
      | zero =>
        have e : p = (k, q, v) := by simpa using z
        exact ⟨w, by simp, by rw [← hq.2.1, e]⟩
      | succ i =>
        obtain ⟨y, h1, h2⟩ := ih (i := i) (by simpa using z)
        exact ⟨y, by simpa using h1, h2⟩
  obtain ⟨y, hy, hq⟩ := at_ r e
  have en := entry_at h4 i
  rw [hy] at en
  exact ⟨_, en, by show Value.ref y.2.1 = _; rw [hq]⟩
theorem turn_keysN {P : Program} {w : World} {K : PySem.W.Frag} {tg : Expr} {es : Array DictEntry} {ep : Nat} (it : Addr) (hod : o.data = .dict es ep) : Turn P w K tg (Itkn P w d o kvs) [it] it (fun i h => h.IsKeyIter it d i kvs.length ep) where
  mem := List.mem_singleton.mpr rfl
  obj := fun i h st b hb => by
    cases List.mem_singleton.mp hb
    obtain ⟨oi, e, c, dd⟩ := st
    exact ⟨oi, e, fun v z => by rw [dd] at z; cases z⟩
  keep := fun i h h' st k => st.at fun oi e => k it (List.mem_singleton.mpr rfl) oi e
  item := by
    rintro X rfl rfl rfl hc i pins s σ H E I hf st ⟨⟨hd, hk⟩, hi⟩
    have ff := hf it (List.mem_singleton.mpr rfl)
    obtain ⟨hs, hgd, hx, es', ep', hdt, hsz, ent⟩ := frzN I hd hk
    obtain ⟨rfl, rfl⟩ := dict_ep hod hdt
    obtain ⟨⟨k, q, v⟩, hkv⟩ : ∃ p, kvs[i]? = some p := ⟨kvs[i], List.getElem?_eq_getElem hi⟩
    obtain ⟨en, hen, hkey⟩ := ent i k q v hkv
    refine next_key_item st hgd hdt hsz hen fun h' st' sb => ?_
    have I1 : Inv X pins σ H { s with heap := h' } := I.turned (t' := s.toks) (fun b ob hb e => (sb.2 b hb).trans e) ff.1 ff.2.1 ff.2.2.2.1 ff.2.2.2.2.1 ff.2.2.2.2.2
    obtain ⟨oi, e, c, dd⟩ := id st'
    exact ⟨en.key, rfl, go_of (s := { s with heap := h' }) e c dd (by decide) ⟨.ref q, H, I1, hkey, ⟨rfl, k, q, v, hkv, rfl⟩, st', fun b hb => (hf b hb).1⟩⟩
  done := by
    rintro X rfl rfl rfl hc i pins s σ H E I hf st ⟨⟨hd, hk⟩, hi⟩
    have ff := hf it (List.mem_singleton.mpr rfl)
    obtain ⟨hs, hgd, hx, es', ep', hdt, hsz, ent⟩ := frzN I hd hk
    obtain ⟨rfl, rfl⟩ := dict_ep hod hdt
    exact next_key_end (I.ok.hd hc) st hgd hdt hsz hi fun h' eb => ⟨rfl, I.turned (t' := s.toks) (fun b o hb e => eb b o hb e) ff.1 ff.2.1 ff.2.2.2.1 ff.2.2.2.2.1 ff.2.2.2.2.2⟩
  self := by
    have q := (turn_keysT (P := P) (w := w) (K := K) (tg := tg) (d := d) (kvs := kvs.map fun _ => (([] : List Key), V.non)) it hod).self
    rw [List.length_map] at q
    exact q
/-- the dict is locked as the loop begins (ps_lock) -/
def iKeysN (P : Program) (w : World) (td : TE) : TI := fun σ H R => td σ H fun x H1 => ∃ d o kvs, x = .ref d ∧ H1 d = some (.frz o (dN P w d kvs)) ∧ NKeys H1 kvs ∧ R (Itkn P w d o kvs) H1
theorem pi_keysN {tg e : Expr} {td : TE} (he : PE X e td) : PI X tg e (iKeysN X.prog X.w td) := by
  refine ⟨fun pins s σ H R I h => ?_⟩
  refine thn (he.run pins s σ H _ I h) fun u s1 ⟨x, H1, I1, rx, d, o, kvs, ex, hd, hk, q⟩ => ?_
  subst ex
  obtain rfl : u = Value.ref d := rx
  obtain ⟨hs, hgd, hx, es, ep, hdt, hsz, ent⟩ := frzN I1 hd hk
  refine iter_keys hs hgd hx hdt (pi_one (tk := s1.toks) I1 _ (turn_keysN _ hdt) ⟨_, Heap.get?_push_size _ rfl, rfl, ?_⟩ q)
  rw [← hsz]
  rfl
end
end K48
/-! ## KR -/
set_option maxHeartbeats 4000000
namespace K48
open PySem L2
/-! ### readings, a step each: r_ .. for what needs no thought -/
section
variable {σ : St} {H : Hp} {Q : VK} {v x y : V} {ta tb te : TE} {t u : TS} {tt tu : TT} {D : Ends} {i : Nat} {R : Bool → Hp → Prop} {K : PySem.W.Frag}
theorem r_var (h : σ[i]? = some (some v)) (k : Q v H) : tVar i σ H Q := ⟨v, h, k⟩
theorem r_c (k : Q v H) : tC v σ H Q := k
theorem r_op {r : R2} (k : ta σ H fun x H1 => tb σ H1 fun y H2 => r x y H2 Q) : tOp r ta tb σ H Q := k
theorem r_un {r : V → Hp → VK → Prop} (k : ta σ H fun x H1 => r x H1 Q) : tUn r ta σ H Q := k
theorem r_i0 {g : Int → Int → V} {a b : Int} (k : Q (g a b) H) : rI0 g (.int a) (.int b) H Q := ⟨a, b, rfl, rfl, k⟩
theorem r_i {C : Int → Int → Prop} {g : Int → Int → V} {a b : Int} (c : C a b) (k : Q (g a b) H) : rI C g (.int a) (.int b) H Q := ⟨a, b, rfl, rfl, c, k⟩
theorem r_eq (hs : scal x y = true) (k : Q (.bl (decide (x = y))) H) : rEq x y H Q := ⟨hs, k⟩
theorem r_ne (hs : scal x y = true) (k : Q (.bl (!decide (x = y))) H) : rNe x y H Q := ⟨hs, k⟩
theorem r_test (k : te σ H fun x H' => ∃ b, x = .bl b ∧ R b H') : tTest te σ H R := k
theorem r_tB (k : te σ H fun x H' => ∃ b, x = .bl b ∧ R b H') : tB te σ H R := k
theorem r_bl {b : Bool} {P : Bool → Prop} (k : P b) : ∃ c, V.bl b = .bl c ∧ P c := ⟨b, rfl, k⟩
theorem r_isN0 : True := trivial
theorem r_and (k : tt σ H fun c H1 => if c = true then tu σ H1 R else R false H1) : tAnd tt tu σ H R := k
theorem r_or (k : tt σ H fun c H1 => if c = true then R true H1 else tu σ H1 R) : tOr tt tu σ H R := k
theorem r_not (k : tt σ H fun c H1 => R (!c) H1) : tNot tt σ H R := k
theorem r_ifE (k : tt σ H fun c H1 => if c = true then ta σ H1 Q else tb σ H1 Q) : tIf tt ta tb σ H Q := k
theorem r_cons {ts : TA} {P : List V → Hp → Prop} (k : te σ H fun x H1 => ts σ H1 fun xs H2 => P (x :: xs) H2) : tCons te ts σ H P := k
theorem r_nil {P : List V → Hp → Prop} (k : P [] H) : tNil σ H P := k
theorem r_seq (k : t { D with nx := u D } σ H) : tSeq t u D σ H := k
theorem r_next (k : D.nx σ H) : tNext D σ H := k
theorem r_asg {g : TG} (k : te σ H fun x H1 => g x σ H1 D.nx) : tAsg te g D σ H := k
theorem r_name {P : St → Hp → Prop} (k : P (σ.set i (some v)) H) : gName i v σ H P := k
theorem r_drop (k : te σ H fun _ H1 => D.nx σ H1) : tDrop te D σ H := k
theorem r_ret (k : te σ H D.rt) : tRet te D σ H := k
theorem r_if (k : tt σ H fun b H1 => if b = true then t D σ H1 else u D σ H1) : tIfS tt t u D σ H := k
theorem r_cb {r : List V → Hp → VK → Prop} {ts : TA} (k : ts σ H fun vs H1 => r vs H1 Q) : tCB r ts σ H Q := k
theorem r_call {sp : Sp} {E : XK} {ts : TA} (k : ts σ H fun vs H1 => sp vs H1 Q E) : tCall sp [] E ts σ H Q := by
  show ts σ H fun vs H1 => sp (vs ++ []) H1 Q E
  simpa only [List.append_nil] using k
theorem r_lst {ts : TA} (k : ts σ H fun xs H1 => xs.length ≤ sizeLine ∧ ∀ p, H1 p = none → Q (.ref p) (upd H1 p (.lst xs))) : tLst ts σ H Q := k
theorem r_tup {ts : TA} (k : ts σ H fun xs H1 => xs.length ≤ sizeLine ∧ ∀ p, H1 p = none → Q (.ref p) (upd H1 p (.tup xs))) : tTup ts σ H Q := k
theorem r_tr {A B : Prop} (k : A) : if true = true then A else B := iteT k
theorem r_fa {A B : Prop} (k : B) : if false = true then A else B := iteF k
theorem r_nt {A B : Prop} (k : B) : if (!true) = true then A else B := iteF k
theorem r_nf {A B : Prop} (k : A) : if (!false) = true then A else B := iteT k
theorem r_yes {c : Bool} {A B : Prop} (h : c = true) (k : A) : if c = true then A else B := by rw [if_pos h]; exact k
theorem r_no {c : Bool} {A B : Prop} (h : c = false) (k : B) : if c = true then A else B := by rw [h]; exact iteF k
theorem r_yes' {c : Bool} {A B : Prop} (h : c = false) (k : A) : if (!c) = true then A else B := by rw [h]; exact iteT k
theorem r_no' {c : Bool} {A B : Prop} (h : c = true) (k : B) : if (!c) = true then A else B := by rw [h]; exact iteF k
theorem r_orV (k : ta σ H fun x H1 => ∃ c, x = .bl c ∧ if c = true then Q (.bl true) H1 else tb σ H1 Q) : tOrV ta tb σ H Q := k
theorem r_andV (k : ta σ H fun x H1 => ∃ c, x = .bl c ∧ if c = true then tb σ H1 Q else Q (.bl false) H1) : tAndV ta tb σ H Q := k
theorem r_yesT {P : Bool → Hp → Prop} (k : P true H) : tYes σ H P := k
theorem r_isi {x c : V} {t u : Value} {b : Bool} (h1 : ClsV c u) (h2 : TyX K H x t) (h3 : PySem.W.kitOne K t u = some b) (k : Q (.bl b) H) : rIsi K [x, c] H Q := ⟨x, c, t, u, b, rfl, h1, h2, h3, k⟩
theorem r_sl {r : V → Option Int → Option Int → Hp → VK → Prop} {tl th : TO} (k : te σ H fun x H1 => tl σ H1 fun l H2 => th σ H2 fun u H3 => r x l u H3 Q) : tSl r te tl th σ H Q := k
theorem r_noP {P : Option Int → Hp → Prop} (k : P none H) : tNoPart σ H P := k
theorem r_part {P : Option Int → Hp → Prop} (k : te σ H fun x H1 => ∃ i, x = .int i ∧ P (some i) H1) : tPart te σ H P := k
theorem r_for {wi : TI} {g : TG} {tb : TS} (k : wi σ H fun J H1 => ∃ W : Nat → Nat → St → Hp → Prop, (∃ m, W 0 m σ H1) ∧ ∀ i m σ H, W i m σ H →
    (J.stop i H ∧ D.nx σ H) ∨ (J.go i H ∧ ∃ N : St → Hp → Prop, (∀ σ' H', N σ' H' → ∃ m', m' < m ∧ W (i + 1) m' σ' H') ∧ ∀ x H', J.yld i H x H' → g x σ H' fun σ2 H2 => tb { D with nx := N, ct := N, bk := D.nx } σ2 H2)) : tFor wi g tb D σ H := k
theorem r_iList {R : It → Hp → Prop} (k : te σ H fun x H1 => ∃ a, x = .ref a ∧ (∃ xs, SqL K H1 a xs) ∧ R (Itl K a) H1) : iList K te σ H R := k
theorem r_iTup {R : It → Hp → Prop} (k : te σ H fun x H1 => ∃ a, x = .ref a ∧ (∃ xs, SqT K H1 a xs) ∧ R (Itt K a) H1) : iTup K te σ H R := k
theorem r_iStr {R : It → Hp → Prop} (k : te σ H fun v H1 => ∃ x, v = .str x ∧ R (Its x) H1) : iStr te σ H R := k
theorem r_iR1 {R : It → Hp → Prop} {ts : TA} (k : ts σ H fun vs H1 => ∃ j : Int, vs = [.int j] ∧ -(2 ^ 62) ≤ j ∧ j < 2 ^ 62 ∧ R (Itr 0 j.toNat) H1) : iRng1 ts σ H R := k
theorem r_iR2 {R : It → Hp → Prop} {ts : TA} (k : ts σ H fun vs H1 => ∃ i j : Int, vs = [.int i, .int j] ∧ (-(2 ^ 62) ≤ i ∧ i < 2 ^ 62 ∧ -(2 ^ 62) ≤ j ∧ j < 2 ^ 62) ∧ R (Itr i (j - i).toNat) H1) : iRng2 ts σ H R := k
theorem r_lc {wi : TI} {g : TG} {tt : TT} {vs : List Nat} (k : wi σ H fun J H1 => ∀ D, H1 D = none → ∃ W : Nat → Nat → Hp → Prop, (∃ m, W 0 m (upd H1 D (.lst []))) ∧ ∀ i m H, W i m H →
    (J.stop i H ∧ Q (.ref D) H) ∨ (J.go i H ∧ ∃ Nx : Hp → Prop, (∀ H', Nx H' → ∃ m', m' < m ∧ W (i + 1) m' H') ∧ ∀ x H', J.yld i H x H' → g x (wipe σ vs) H' fun σ2 H2 => wipe σ2 vs = wipe σ vs ∧ tt σ2 H2 fun b H3 =>
      if b = true then te σ2 H3 fun y H4 => ∃ acc, H4 D = some (.lst acc) ∧ acc.length < sizeLine ∧ Nx (upd H4 D (.lst (acc ++ [y]))) else Nx H3)) : tLc wi g tt te vs σ H Q := k
theorem r_exI {a : Int} {P : Int → Prop} (k : P a) : ∃ i, V.int a = .int i ∧ P i := ⟨a, rfl, k⟩
end
/-! ### in, slices -/
theorem inV_str (x : Str) (ks : List Str) : inV (.str x) (ks.map V.str) = decide (x ∈ ks) := by
  unfold inV
  rw [List.any_map]
  induction ks with
  | nil => simp
  | cons k ks ih =>
    rw [List.any_cons, ih]
    show ((k == x) || decide (x ∈ ks)) = decide (x ∈ k :: ks)
    by_cases h : x = k
    · subst h; simp
    · have h2 : (k == x) = false := beq_eq_false_iff_ne.mpr fun z => h z.symm
      simp [h2, h]
theorem flat_strs (ks : List Str) : (ks.map V.str).all flatV = true := by
  rw [List.all_map]
  exact List.all_eq_true.mpr fun _ _ => rfl
theorem inV_nat (x : Nat) (ks : List Nat) : inV (.int (x : Int)) (ks.map fun n : Nat => V.int (n : Int)) = decide (x ∈ ks) := by
  unfold inV
  rw [List.any_map]
  induction ks with
  | nil => simp
  | cons k ks ih =>
    rw [List.any_cons, ih]
    show (((k : Int) == (x : Int)) || decide (x ∈ ks)) = decide (x ∈ k :: ks)
    by_cases h : x = k
    · subst h; simp
    · have h2 : ((k : Int) == (x : Int)) = false := beq_eq_false_iff_ne.mpr fun z => h (by omega)
      simp [h2, h]
theorem flat_nats (ks : List Nat) : (ks.map fun n : Nat => V.int (n : Int)).all flatV = true := by
  rw [List.all_map]
  exact List.all_eq_true.mpr fun _ _ => rfl
theorem r_inS {K : PySem.W.Frag} {H : Hp} {Q : VK} {p : Addr} {x : Str} {ks : List Str} (hp : SqL K H p (ks.map V.str) ∨ SqT K H p (ks.map V.str)) (k : Q (.bl (decide (x ∈ ks))) H) : rIn K false (.str x) (.ref p) H Q :=
  ⟨p, _, rfl, hp, rfl, flat_strs ks, by rw [inV_str]; exact k⟩
theorem r_ninS {K : PySem.W.Frag} {H : Hp} {Q : VK} {p : Addr} {x : Str} {ks : List Str} (hp : SqL K H p (ks.map V.str) ∨ SqT K H p (ks.map V.str)) (k : Q (.bl (!decide (x ∈ ks))) H) : rIn K true (.str x) (.ref p) H Q :=
  ⟨p, _, rfl, hp, rfl, flat_strs ks, by rw [inV_str]; exact k⟩
theorem r_inN {K : PySem.W.Frag} {H : Hp} {Q : VK} {p : Addr} {x : Nat} {ks : List Nat} (hp : SqL K H p (ks.map fun n : Nat => V.int (n : Int)) ∨ SqT K H p (ks.map fun n : Nat => V.int (n : Int))) (k : Q (.bl (decide (x ∈ ks))) H) : rIn K false (.int (x : Int)) (.ref p) H Q :=
  ⟨p, _, rfl, hp, rfl, flat_nats ks, by rw [inV_nat]; exact k⟩
theorem cut_from (xs : List V) (k : Nat) : cutV xs (some (k : Int)) none = xs.drop k := by
  unfold cutV
  rw [HT.sIx_none, HT.sIx_nat]
  rw [List.take_of_length_le (by rw [List.length_drop]; omega)]
  by_cases h : k ≤ xs.length
  · rw [Nat.min_eq_left h]
  · rw [Nat.min_eq_right (by omega), List.drop_eq_nil_of_le (Nat.le_refl _), List.drop_eq_nil_of_le (by omega)]
theorem cut_to (xs : List V) (k : Nat) : cutV xs none (some (k : Int)) = xs.take k := by
  unfold cutV
  rw [HT.sIx_none, HT.sIx_nat, List.drop_zero, Nat.sub_zero]
  by_cases h : k ≤ xs.length
  · rw [Nat.min_eq_left h]
  · rw [Nat.min_eq_right (by omega), List.take_of_length_le (Nat.le_refl _), List.take_of_length_le (by omega)]
theorem small_sz {n : Nat} (h : n ≤ 100000) : n ≤ sizeLine := Nat.le_trans h (by decide)
theorem small_lt {n : Nat} (h : n ≤ 100000) : n < sizeLine := Nat.lt_of_le_of_lt h (by decide)

section
variable {σ : St} {H : Hp} {Q : VK} {v x y : V} {ta tb te : TE} {t u : TS} {tt tu : TT} {D : Ends} {i : Nat} {R : Bool → Hp → Prop} {K : PySem.W.Frag}
theorem r_gsub {to ti : TE} {ts : TSet} {P : St → Hp → Prop} (k : to σ H fun o H1 => ti σ H1 fun j H2 => ts o j v H2 fun H3 => P σ H3) : gSub to ti ts v σ H P := k
theorem r_gtup {n : Nat} {g : TGs} {a : Addr} {xs : List V} {P : St → Hp → Prop} (h : H a = some (.tup xs)) (hl : xs.length = n) (k : g xs σ H P) : gTup K n g (.ref a) σ H P := ⟨a, xs, rfl, .inl (.inl h), hl, k⟩
theorem r_gunl {n : Nat} {g : TGs} {a : Addr} {xs : List V} {P : St → Hp → Prop} (h : H a = some (.lst xs)) (hl : xs.length = n) (k : g xs σ H P) : gUnl K n g (.ref a) σ H P := ⟨a, xs, rfl, .inl (.inl h), hl, k⟩
theorem r_gcons {g : TG} {gs : TGs} {vs : List V} {P : St → Hp → Prop} (k : g v σ H fun σ' H' => gs vs σ' H' P) : gCons g gs (v :: vs) σ H P := ⟨v, vs, rfl, k⟩
theorem r_gnil {P : St → Hp → Prop} (k : P σ H) : gNil [] σ H P := ⟨rfl, k⟩
theorem r_setL {p : Addr} {xs : List V} {j : Nat} {P : Hp → Prop} (h : H p = some (.lst xs)) (hj : j < xs.length) (k : P (upd H p (.lst (xs.set j v)))) : rSetL (.ref p) (.int (j : Nat)) v H P := by
  refine ⟨p, xs, (j : Nat), j, rfl, rfl, h, ?_, k⟩
  unfold ixN
  rw [if_pos (by omega), if_pos (by omega)]
  rfl
theorem r_ixL {p : Addr} {xs : List V} {j : Nat} (h : H p = some (.lst xs)) (hj : xs[j]? = some v) (k : Q v H) : rIxL K (.ref p) (.int (j : Nat)) H Q := ⟨p, xs, _, v, rfl, rfl, .inl (.inl h), atI_nat hj, k⟩
theorem r_ixL0 {p : Addr} {xs : List V} (h : H p = some (.lst (v :: xs))) (k : Q v H) : rIxL K (.ref p) (.int 0) H Q := ⟨p, _, _, v, rfl, rfl, .inl (.inl h), atI_nat (j := 0) rfl, k⟩
theorem r_ixT {p : Addr} {xs : List V} {j : Nat} (h : H p = some (.tup xs)) (hj : xs[j]? = some v) (k : Q v H) : rIxT K (.ref p) (.int (j : Nat)) H Q := ⟨p, xs, _, v, rfl, rfl, .inl (.inl h), atI_nat hj, k⟩
theorem r_app {p : Addr} {xs : List V} (h : H p = some (.lst xs)) (hl : xs.length < sizeLine) (k : Q .non (upd H p (.lst (xs ++ [v])))) : rAppend (.ref p) [v] H Q := ⟨p, xs, v, rfl, rfl, h, hl, k⟩
theorem r_bm {Ty : String} {r : V → List V → Hp → VK → Prop} {ts : TA} (k : te σ H fun x H1 => tyV K Ty x H1 ∧ ts σ H1 fun xs H2 => r x xs H2 Q) : tBM K Ty r te ts σ H Q := k
theorem r_bm0 {Ty : String} {r : V → List V → Hp → VK → Prop} (k : te σ H fun x H1 => tyV K Ty x H1 ∧ r x [] H1 Q) : tBM0 K Ty r te σ H Q := k
theorem r_tyL {p : Addr} {xs : List V} (h : H p = some (.lst xs)) {B : Prop} (k : B) : tyV K "list" (.ref p) H ∧ B := ⟨.inl ⟨rfl, xs, .inl (.inl h)⟩, k⟩
theorem r_fld {f : Str} (k : te σ H fun x H1 => ∃ a C dx fs v, x = .ref a ∧ H1 a = some (.ins C dx fs) ∧ Cls K C ∧ NoAttr K C f ∧ fs.lookup f = some v ∧ Q v H1) : tFld K te f σ H Q := k
theorem r_sfld {f : Str} (k : tb σ H fun y H1 => te σ H1 fun x H2 => ∃ a C dx fs, x = .ref a ∧ H2 a = some (.ins C dx fs) ∧ Cls K C ∧ NoAttr K C f ∧ fs.length < 1000 ∧ D.nx σ (upd H2 a (.ins C dx (putF f y fs)))) : sFld K te tb f D σ H := k
theorem r_meth {C : Addr} {m : Str} {sp : Sp} {E : XK} {ts : TA} (k : te σ H fun x H1 => ∃ a dx fs, x = .ref a ∧ H1 a = some (.ins C dx fs) ∧ fs.lookup m = none ∧ ts σ H1 fun vs H2 => sp (x :: vs) H2 Q E) : tMeth C m sp [] E te ts σ H Q := by
  show te σ H fun x H1 => ∃ a dx fs, x = .ref a ∧ H1 a = some (.ins C dx fs) ∧ fs.lookup m = none ∧ ts σ H1 fun vs H2 => sp (x :: (vs ++ [])) H2 Q E
  simpa only [List.append_nil] using k
theorem r_make {C : Addr} {sp : Sp} {E : XK} {ts : TA} (k : ts σ H fun vs H1 => ∀ x dx, H1 x = none → H1 dx = none → dx ≠ x → sp (.ref x :: vs) (upd (upd H1 dx (.own x)) x (.ins C dx [])) (fun v H2 => v = .non ∧ Q (.ref x) H2) E) : tMake C sp [] E ts σ H Q := by
  show ts σ H fun vs H1 => ∀ x dx, H1 x = none → H1 dx = none → dx ≠ x → sp (.ref x :: (vs ++ [])) (upd (upd H1 dx (.own x)) x (.ins C dx [])) (fun v H2 => v = .non ∧ Q (.ref x) H2) E
  simpa only [List.append_nil] using k
theorem r_dget (k : ta σ H fun x H1 => tb σ H1 fun y H2 => ∃ a v, x = .ref a ∧ DGet H2 a y (some v) ∧ Q v H2) : tDGet ta tb σ H Q := k
theorem r_din (k : ta σ H fun y H1 => tb σ H1 fun x H2 => ∃ a o, x = .ref a ∧ DGet H2 a y o ∧ Q (.bl o.isSome) H2) : tDIn ta tb σ H Q := k
theorem r_dnin (k : ta σ H fun y H1 => tb σ H1 fun x H2 => ∃ a o, x = .ref a ∧ DGet H2 a y o ∧ Q (.bl (!o.isSome)) H2) : tDNotIn ta tb σ H Q := k
theorem r_dput (k : te σ H fun v H1 => ta σ H1 fun x H2 => tb σ H2 fun y H3 => ∃ a H4, x = .ref a ∧ DPut H3 a y v H4 ∧ D.nx σ H4) : sDPut ta tb te D σ H := k
theorem r_dgetN {P : Program} {w : World} (k : ta σ H fun x H1 => tb σ H1 fun y H2 => ∃ a v, x = .ref a ∧ NGet P w H2 a y (some v) ∧ Q v H2) : tNGet P w ta tb σ H Q := k
theorem r_dinN {P : Program} {w : World} (k : ta σ H fun y H1 => tb σ H1 fun x H2 => ∃ a o, x = .ref a ∧ NGet P w H2 a y o ∧ Q (.bl o.isSome) H2) : tNIn P w ta tb σ H Q := k
theorem r_dninN {P : Program} {w : World} (k : ta σ H fun y H1 => tb σ H1 fun x H2 => ∃ a o, x = .ref a ∧ NGet P w H2 a y o ∧ Q (.bl (!o.isSome)) H2) : tNNotIn P w ta tb σ H Q := k
theorem r_dputN {P : Program} {w : World} (k : te σ H fun v H1 => ta σ H1 fun x H2 => tb σ H2 fun y H3 => ∃ a H4, x = .ref a ∧ NPut P w H3 a y v H4 ∧ D.nx σ H4) : sNPut P w ta tb te D σ H := k
theorem r_cat {a b : Addr} {xs ys : List V} (ha : H a = some (.lst xs)) (hb : H b = some (.lst ys)) (hl : xs.length + ys.length ≤ sizeLine) (k : ∀ p, H p = none → Q (.ref p) (upd H p (.lst (xs ++ ys)))) : rCat (.ref a) (.ref b) H Q := ⟨a, b, xs, ys, rfl, rfl, ha, hb, hl, k⟩
theorem r_aug {ti : TIp} (h : σ[i]? = some (some v)) (k : te σ H fun y H1 => ti v y H1 fun z H2 => D.nx (σ.set i (some z)) H2) : tAug i te ti D σ H := ⟨v, h, k⟩
theorem r_par {j : Nat} {ts : TA} (k : ts σ H fun vs H1 => ∃ v w, vs = [v, w] ∧ D.nx ((σ.set i (some v)).set j (some w)) H1) : tPar i j ts D σ H := k
theorem r_seqC (Pv : St → Hp → Prop) (h2 : ∀ σ' H', Pv σ' H' → u D σ' H') (h1 : ∀ R : St → Hp → Prop, (∀ σ' H', Pv σ' H' → R σ' H') → t { D with nx := R } σ H) : tSeq t u D σ H := h1 _ h2
theorem r_slL {p : Addr} {xs : List V} {lo hi : Option Int} (h : H p = some (.lst xs)) (k : ∀ q, H q = none → Q (.ref q) (upd H q (.lst (cutV xs lo hi)))) : rSlL K (.ref p) lo hi H Q := ⟨p, xs, rfl, .inl (.inl h), k⟩
theorem walk_rng0 {n : Nat} : Walk (Itr 0 n) n (fun _ => True) (fun i H x H' => H' = H ∧ x = .int (i : Nat)) :=
  walk_range.mono (fun _ h => h) fun i H x H' _ _ y => ⟨y.1, y.2.trans (by show V.int (0 + (i : Int)) = _; rw [Int.zero_add])⟩
def rLenQ (K : PySem.W.Frag) : List V → Hp → VK → Prop := fun xs H Q => ∃ p ys, xs = [.ref p] ∧ (SqL K H p ys ∨ SqT K H p ys) ∧ Q (.int ys.length) H
theorem r_lenL {p : Addr} {xs : List V} (h : H p = some (.lst xs)) (k : Q (.int (xs.length : Nat)) H) : ∃ p' ys, [V.ref p] = [.ref p'] ∧ (SqL K H p' ys ∨ SqT K H p' ys) ∧ Q (.int ys.length) H := ⟨p, xs, rfl, .inl (.inl (.inl h)), k⟩
theorem r_lenT {p : Addr} {xs : List V} (h : H p = some (.tup xs)) (k : Q (.int (xs.length : Nat)) H) : ∃ p' ys, [V.ref p] = [.ref p'] ∧ (SqL K H p' ys ∨ SqT K H p' ys) ∧ Q (.int ys.length) H := ⟨p, xs, rfl, .inr (.inl (.inl h)), k⟩
theorem r_lenQL {p : Addr} {xs : List V} (h : H p = some (.lst xs)) (k : Q (.int (xs.length : Nat)) H) : rLenQ K [.ref p] H Q := r_lenL h k
theorem r_lenQT {p : Addr} {xs : List V} (h : H p = some (.tup xs)) (k : Q (.int (xs.length : Nat)) H) : rLenQ K [.ref p] H Q := r_lenT h k
theorem r_neg {a : Int} (k : Q (.int (-a)) H) : rU (fun i => .int (-i)) (.int a) H Q := ⟨a, rfl, k⟩
theorem sz_lit {n : Nat} (h : Nat.ble n 100000 = true) : n ≤ sizeLine := small_sz (Nat.le_of_ble_eq_true h)
end
/-! ### names -/
def lets : List Nat := ("abcdefghijklmnopqrstuvwxyz" : Str).cps.toList
def digs : List Nat := ("0123456789" : Str).cps.toList
/-- a name: a letter, then up to seven letters and digits -/
structure IsNm (w : Str) : Prop where
  ex : ∃ c l, w.cps.toList = c :: l ∧ l.length ≤ 7 ∧ c ∈ lets ∧ ∀ x ∈ l, x ∈ lets ∨ x ∈ digs
theorem IsNm.len {w : Str} (h : IsNm w) : w.length ≤ 8 ∧ 0 < w.length := by
  obtain ⟨c, l, e, hl, _⟩ := h.ex
  have : w.length = w.cps.toList.length := by simp [Str.length]
  rw [this, e, List.length_cons]
  omega
theorem IsNm.all {w : Str} (h : IsNm w) : ∀ x ∈ w.cps.toList, x ∈ lets ∨ x ∈ digs := by
  obtain ⟨c, l, e, hl, hc, ha⟩ := h.ex
  rw [e]
  intro x hx
  rcases List.mem_cons.mp hx with rfl | hx
  · exact .inl hc
  · exact ha x hx
/-! ### what the top has left: names -/
structure Top (K : PySem.W.Frag) (mg : Str → Option Value) : Prop where
  b_len : mg "len" = none
  b_range : mg "range" = none
  b_any : mg "any" = none
  b_all : mg "all" = none
  b_tuple : mg "tuple" = none
  b_list : mg "list" = none
  b_dict : mg "dict" = none
  b_int : mg "int" = none
  b_str : mg "str" = none
  b_isinstance : mg "isinstance" = none
  b_enumerate : mg "enumerate" = none
  b_zip : mg "zip" = none
  g_LETTERS : ∃ u, mg "LETTERS" = some u ∧ RelV (.str "abcdefghijklmnopqrstuvwxyz") u
  g_DIGITS : ∃ u, mg "DIGITS" = some u ∧ RelV (.str "0123456789") u
  g_LONGEST : ∃ u, mg "LONGEST" = some u ∧ RelV (.int 8) u

section
variable {P : Program} {w : World} {K : PySem.W.Frag} {mg : Str → Option Value} {base : Heap}
/-- a def of the module: where it stands, under its name -/
structure Dn (K : PySem.W.Frag) (mg : Str → Option Value) (x : Str) (st : Stmt) : Prop where
  ex : ∃ (f : Addr) (fd : FuncData), L2.Fun K x x st f fd ∧ mg x = some (.ref f)
/-- a def's promise, for callers -/
abbrev Cal (P : Program) (w : World) (K : PySem.W.Frag) (mg : Str → Option Value) (base : Heap) (k : Nat) (x : Str) (sp : Sp) : Prop := C8.Cal P w K mg base k x sp []
theorem Dn.cal {x : Str} {st : Stmt} {N ps : List Str} {k : Nat} {sp : Sp} (F : Dn K mg x st) (S : FnScope N ps (defScope st)) (len : ∀ vs H Q E, sp vs H Q E → vs.length = ps.length)
    (b : ∀ (kV doc pm : Value) (an : Option Addr) (cdv ct : Value) (us : List Value), us.length = ps.length → bindArgs (PySem.W.fnOf x x (defArgs st) (defBody st) (defScope st) .none kV doc pm an cdv ct) ⟨us, []⟩ = pure (ps.zip us))
    (hbody : ∀ (f : Addr) (cdv : Value) (A : Around) (outer : List Env) (s : Shared) (H : Hp) (vs : List V) (Q : VK) (E : XK), Room k (A.deeper (PyProof.Rows.envOfC x (defScope st) s.heap.objs.size f cdv)) → sp vs H Q E →
      ∃ t, PSs (cxOf CX0 P w K mg base N x (defScope st) f cdv A outer s H E).nox (defBody st) t ∧ t { nx := fun _ H' => Q .non H', rt := Q } (start N vs) H) : Cal P w K mg base (k + 1) x sp := by
  obtain ⟨f, fd, F1, hm⟩ := F.ex
  exact ⟨f, fd, ps, [], L2.Fun.ok F1 S len fun cdv A outer s H vs Q E hr h => hbody f cdv A outer s H vs Q E hr h, hm, F1.kp, L2.Fun.binds F1 b, .nil⟩
end
end K48
/-! ## KD1 -/
set_option maxHeartbeats 4000000
namespace K48
open PySem L2
local macro_rules | `(tactic| walk_at "r1") => `(tactic| first
  | with_reducible refine r_seq ?_ | with_reducible refine r_asg ?_ | with_reducible refine r_ret ?_ | with_reducible refine r_drop ?_ | with_reducible refine r_if ?_ | with_reducible refine r_next ?_
  | with_reducible refine r_name ?_ | with_reducible refine r_c ?_ | ((with_reducible show tVar _ _ _ _); refine r_var rfl ?_) | with_reducible refine r_op ?_ | with_reducible refine r_un ?_
  | with_reducible refine r_i0 ?_ | with_reducible refine r_test ?_ | with_reducible refine r_tB ?_ | with_reducible refine r_bl ?_ | with_reducible refine r_and ?_ | with_reducible refine r_or ?_
  | with_reducible refine r_not ?_ | with_reducible refine r_ifE ?_ | with_reducible refine r_cons ?_ | with_reducible refine r_nil ?_ | with_reducible refine r_cb ?_ | with_reducible refine r_call ?_
  | with_reducible refine r_lst ?_ | with_reducible refine r_tup ?_ | with_reducible refine r_sl ?_ | with_reducible refine r_noP ?_ | with_reducible refine r_part ?_ | with_reducible refine r_exI ?_
  | with_reducible refine r_tr ?_ | with_reducible refine r_fa ?_ | with_reducible refine r_for ?_ | with_reducible refine r_iList ?_ | with_reducible refine r_iTup ?_ | with_reducible refine r_iStr ?_
  | with_reducible refine r_iR1 ?_ | with_reducible refine r_iR2 ?_ | with_reducible refine r_lc ?_ | with_reducible refine r_nt ?_ | with_reducible refine r_nf ?_ | with_reducible refine r_orV ?_ | with_reducible refine r_andV ?_ | with_reducible refine r_yesT ?_ | with_reducible refine r_gsub ?_ | with_reducible refine r_gcons ?_ | with_reducible refine r_gnil ?_ | with_reducible refine r_bm ?_ | with_reducible refine r_bm0 ?_
  | with_reducible refine r_fld ?_ | with_reducible refine r_sfld ?_ | with_reducible refine r_meth ?_ | with_reducible refine r_make ?_ | with_reducible refine r_dget ?_ | with_reducible refine r_din ?_ | with_reducible refine r_dnin ?_ | with_reducible refine r_dput ?_
  | with_reducible refine r_dgetN ?_ | with_reducible refine r_dinN ?_ | with_reducible refine r_dninN ?_ | with_reducible refine r_dputN ?_ | ((with_reducible show tAug _ _ _ _ _ _); refine r_aug rfl ?_) | with_reducible refine r_par ?_ | with_reducible refine r_neg ?_ | with_reducible refine r_iEnum ?_ | with_reducible refine r_iZip ?_ | with_reducible refine r_iZipA ?_)
local macro_rules | `(tactic| walk_at "r") => `(tactic| repeat walk_at "r1")

section
variable {P : Program} {w : World} {K : PySem.W.Frag} {mg : Str → Option Value} {base : Heap}
/-! first_missing: nothing is missing -/
abbrev st_first_missing : Stmt := topS 26
abbrev N_first_missing : List Str := ["names", "known", "name"]
theorem sc_first_missing : FnScope N_first_missing ["names", "known"] (defScope st_first_missing) := ⟨rfl, rfl, rfl, by decide +kernel, rfl, by decide +kernel, by decide +kernel⟩
def spFirst (K : PySem.W.Frag) : Sp := fun vs H Q _ => ∃ (a b : Addr) (ns ks : List Str), vs = [.ref a, .ref b] ∧ (SqL K H a (ns.map V.str) ∨ SqT K H a (ns.map V.str)) ∧ SqT K H b (ks.map V.str) ∧ (∀ n ∈ ns, n ∈ ks) ∧ Q .non H
theorem ok_first_missing (T : Top K mg) (F : Dn K mg "first_missing" st_first_missing) : Cal P w K mg base 1 "first_missing" (spFirst K) := by
  refine F.cal sc_first_missing (fun vs H Q E h => ?_) (fun _ _ _ _ _ _ us hl => match us, hl with | [_, _], _ => rfl) (fun f cdv A outer s H vs Q E hr h => ?_)
  · obtain ⟨a, b, ns, ks, rfl, _⟩ := h
    rfl
  · obtain ⟨a, b, ns, ks, rfl, ha, hb, hn, k⟩ := h
    have turn : ∀ {i : Nat} {x : V}, (ns.map V.str)[i]? = some x → ∃ n, x = .str n ∧ n ∈ ks := fun {i x} hi => by
      rw [List.getElem?_map] at hi
      obtain ⟨n, hn1, rfl⟩ := Option.map_eq_some_iff.mp hi
      exact ⟨n, rfl, hn n (List.mem_of_getElem? hn1)⟩
    rcases ha with ha | ha
    · refine ⟨_, (pss_cons (ps_for PassesOwn.never rfl (pi_list (pv 0)) (pg_name (i := 2) sc_first_missing.nd rfl (Or.inl rfl)) (pss_one (ps_if (pt_cmpR op_notIn_seq (pv 2) (pv 1) (by rfl)) (pss_one (ps_ret (pv 2))) pss_nil)))
  (pss_one (ps_ret pe_non))), ?_⟩
      walk_at "r"
      refine ⟨_, rfl, ⟨_, ha⟩, for_list (xs := ns.map V.str) (fun i σ H' => H' = H ∧ ∃ z, σ = [some (.ref a), some (.ref b), z]) ⟨rfl, _, rfl⟩ (fun i σ H' _ p => p.1 ▸ ha) ?_ ?_⟩
      · rintro i x σ H' hi ⟨rfl, z, rfl⟩
        obtain ⟨n, rfl, hm⟩ := turn hi
        walk_at "r"
        refine r_ninS (.inr hb) ?_
        rw [decide_eq_true hm]
        walk_at "r"
        exact ⟨rfl, _, rfl⟩
      · rintro σ H' ⟨rfl, z, rfl⟩
        walk_at "r"
        exact k
    · refine ⟨_, (pss_cons (ps_for PassesOwn.never rfl (pi_tup (pv 0)) (pg_name (i := 2) sc_first_missing.nd rfl (Or.inl rfl)) (pss_one (ps_if (pt_cmpR op_notIn_seq (pv 2) (pv 1) (by rfl)) (pss_one (ps_ret (pv 2))) pss_nil)))
  (pss_one (ps_ret pe_non))), ?_⟩
      walk_at "r"
      refine ⟨_, rfl, ⟨_, ha⟩, for_tup (xs := ns.map V.str) (fun i σ H' => H' = H ∧ ∃ z, σ = [some (.ref a), some (.ref b), z]) ⟨rfl, _, rfl⟩ (fun i σ H' _ p => p.1 ▸ ha) ?_ ?_⟩
      · rintro i x σ H' hi ⟨rfl, z, rfl⟩
        obtain ⟨n, rfl, hm⟩ := turn hi
        walk_at "r"
        refine r_ninS (.inr hb) ?_
        rw [decide_eq_true hm]
        walk_at "r"
        exact ⟨rfl, _, rfl⟩
      · rintro σ H' ⟨rfl, z, rfl⟩
        walk_at "r"
        exact k
/-! is_name: of a name -/
abbrev st_is_name : Stmt := topS 23
abbrev N_is_name : List Str := ["word", "sign"]
theorem sc_is_name : FnScope N_is_name ["word"] (defScope st_is_name) := ⟨rfl, rfl, rfl, by decide +kernel, rfl, by decide +kernel, by decide +kernel⟩
def spIsName : Sp := fun vs H Q _ => ∃ (z : Str), vs = [.str z] ∧ IsNm z ∧ ∀ H', Same H H' → Q (.bl true) H'
theorem ok_is_name (T : Top K mg) (F : Dn K mg "is_name" st_is_name) : Cal P w K mg base 1 "is_name" spIsName := by
  refine F.cal sc_is_name (fun vs H Q E h => ?_) (fun _ _ _ _ _ _ us hl => match us, hl with | [_], _ => rfl) (fun f cdv A outer s H vs Q E hr h => ?_)
  · obtain ⟨z, rfl, _⟩ := h
    rfl
  · obtain ⟨z, rfl, hz, k⟩ := h
    refine ⟨_, (pss_cons (ps_if (PW.pt (pw_or (pt_not (pt_val (pe_callB call_isi rfl T.b_isinstance (by decide +kernel) (pa_cons (pv 0) (pa_cons (pe_bltn (v := .ty "str") rfl T.b_str (by decide +kernel) rfl) pa_nil))))) (pw_or (pt_cmpR op_eq (pv 0) pe_str (nomark _)) (pw_or (pt_cmpR op_gt (pe_callB call_len_str rfl T.b_len (by decide +kernel) (pa_cons (pv 0) pa_nil)) (C8.pe_gc rfl T.g_LONGEST) (nomark _)) (pw_or1 (pt_cmpR op_notIn_sign (pe_ix ix_str (pv 0) pe_int (fun _ _ => rfl)) (C8.pe_gc rfl T.g_LETTERS) (by rfl))))))) (pss_one (ps_ret pe_bl)) pss_nil)
  (pss_one (ps_ret (pe_callB (cr_all rfl) rfl T.b_all (by decide +kernel) (pa_cons (pe_lc (own := [("sign", 1)]) (g := (gName 1)) (tt := tYes) rfl sc_is_name.nd (pi_str (pv 0)) (blkOk_by (N := N_is_name) (sc := defScope st_is_name) (by decide +kernel)) (fun _ _ _ _ _ => (pg_name (i := 1) sc_is_name.nd rfl (Or.inl rfl))) (fun _ _ _ _ _ => pts_nil) (fun _ _ _ _ _ => (pe_or (pe_cmpR op_in_sign (pv 1) (C8.pe_gc rfl T.g_LETTERS) (by rfl)) (pe_one (pe_cmpR op_in_sign (pv 1) (C8.pe_gc rfl T.g_DIGITS) (by rfl)))))) pa_nil))))), ?_⟩
    obtain ⟨c, l, ez, hl, hc, ha⟩ := hz.ex
    have hlen := hz.len
    walk_at "r"
    refine r_isi (b := true) (.ty _) (.base (.str _)) (L2.kit_ty (by decide +kernel)) ?_
    walk_at "r"
    refine r_eq rfl ?_
    walk_at "r"
    have ne : z ≠ ("" : Str) := fun q => by
      rw [q] at ez
      revert ez
      intro ez
      have : ([] : List Nat) = c :: l := ez
      cases this
    have e0 : decide (V.str z = V.str (Str.ofString "")) = false := decide_eq_false fun q => ne (V.str.inj q)
    refine r_no e0 ?_
    walk_at "r"
    refine ⟨z, rfl, small_sz (by omega), ?_⟩
    walk_at "r"
    refine r_no (decide_eq_false (by omega)) ?_
    walk_at "r"
    refine ⟨z, 0, c, rfl, rfl, small_sz (by omega), ?_, ?_⟩
    · rw [ez]; exact atI_nat (j := 0) rfl
    walk_at "r"
    refine ⟨c, _, rfl, rfl, ?_⟩
    rw [decide_eq_true (show c ∈ (Str.ofString "abcdefghijklmnopqrstuvwxyz").cps.toList from hc)]
    walk_at "r"
    refine ⟨_, rfl, ?_⟩
    intro Dl hD
    refine lc_it (walk_str (z := z)) (fun i H' => Same H H' ∧ H' Dl = some (.lst ((List.replicate i true).map V.bl))) ⟨same_upd hD, upd_same⟩ (fun _ _ _ _ => trivial) ?_ ?_
    · rintro i x H1 H2 hi ⟨s1, e1⟩ ⟨rfl, d, hd, rfl⟩
      have hm : d ∈ z.cps.toList := by
        rw [← Array.getElem?_toList] at hd
        exact List.mem_of_getElem? hd
      have hsz : i < z.length := hi
      walk_at "r"
      refine ⟨rfl, ?_⟩
      have fin : ∃ acc, H2 Dl = some (.lst acc) ∧ acc.length < sizeLine ∧ (Same H (upd H2 Dl (.lst (acc ++ [V.bl true]))) ∧ upd H2 Dl (.lst (acc ++ [V.bl true])) Dl = some (.lst ((List.replicate (i + 1) true).map V.bl))) := by
        refine ⟨_, e1, ?_, s1.upd_mut hD, ?_⟩
        · rw [List.length_map, List.length_replicate]; exact small_lt (by omega)
        · rw [upd_same, List.replicate_succ', List.map_append]; rfl
      walk_at "r"
      refine ⟨d, _, rfl, rfl, ?_⟩
      by_cases h1 : d ∈ (Str.ofString "abcdefghijklmnopqrstuvwxyz").cps.toList
      · rw [decide_eq_true h1]
        walk_at "r"
        exact fin
      · rw [decide_eq_false h1]
        walk_at "r"
        have h2 : d ∈ (Str.ofString "0123456789").cps.toList := (hz.all d hm).resolve_left h1
        refine ⟨d, _, rfl, rfl, ?_⟩
        rw [decide_eq_true h2]
        exact fin
    · rintro H1 ⟨s1, e1⟩
      walk_at "r"
      refine ⟨Dl, _, rfl, .of e1, ?_⟩
      have e2 : (List.replicate z.cps.size true).all id = true := by simp
      rw [e2]
      exact k _ s1
/-! check_lanes: names, at least one -/
abbrev st_check_lanes : Stmt := topS 47
abbrev N_check_lanes : List Str := ["lanes", "lane"]
theorem sc_check_lanes : FnScope N_check_lanes ["lanes"] (defScope st_check_lanes) := ⟨rfl, rfl, rfl, by decide +kernel, rfl, by decide +kernel, by decide +kernel⟩
def spCheck (K : PySem.W.Frag) : Sp := fun vs H Q _ => ∃ (a : Addr) (ns : List Str), vs = [.ref a] ∧ (SqL K H a (ns.map V.str) ∨ SqT K H a (ns.map V.str)) ∧ ns ≠ [] ∧ ns.length ≤ 1000 ∧ (∀ n ∈ ns, IsNm n) ∧ ∀ H', Same H H' → Q .non H'
theorem ok_check_lanes (T : Top K mg) (F : Dn K mg "check_lanes" st_check_lanes) (c_is_name : Cal P w K mg base 1 "is_name" spIsName) : Cal P w K mg base 2 "check_lanes" (spCheck K) := by
  refine F.cal sc_check_lanes (fun vs H Q E h => ?_) (fun _ _ _ _ _ _ us hl => match us, hl with | [_], _ => rfl) (fun f cdv A outer s H vs Q E hr h => ?_)
  · obtain ⟨a, ns, rfl, _⟩ := h
    rfl
  · obtain ⟨a, ns, rfl, ha, h0, hlen, hn, k⟩ := h
    have turn : ∀ {i : Nat} {x : V}, (ns.map V.str)[i]? = some x → ∃ n, x = .str n ∧ IsNm n := fun {i x} hi => by
      rw [List.getElem?_map] at hi
      obtain ⟨n, hn1, rfl⟩ := Option.map_eq_some_iff.mp hi
      exact ⟨n, rfl, hn n (List.mem_of_getElem? hn1)⟩
    have el : decide (V.int (((ns.map V.str).length : Nat) : Int) = V.int 0) = false := decide_eq_false fun q => h0 (by
      have q' := V.int.inj q
      rw [List.length_map] at q'
      exact List.length_eq_zero_iff.mp (by omega))
    rcases ha with ha | ha
    · refine ⟨_, (pss_cons (ps_if (pt_cmpR op_eq (pe_callB call_len_seq rfl T.b_len (by decide +kernel) (pa_cons (pv 0) pa_nil)) pe_int (nomark _)) (pss_one (ps_never)) pss_nil)
  (pss_one (ps_for PassesOwn.never rfl (pi_list (pv 0)) (pg_name (i := 1) sc_check_lanes.nd rfl (Or.inl rfl)) (pss_one (ps_if (pt_not (pt_val (C8.pe_c c_is_name hr (by omega) rfl (pa_cons (pv 1) pa_nil)))) (pss_one (ps_never)) pss_nil))))), ?_⟩
      walk_at "r"
      refine ⟨a, _, rfl, .inl ha, ?_⟩
      walk_at "r"
      refine r_eq rfl ?_
      walk_at "r"
      refine r_no el ?_
      walk_at "r"
      refine ⟨_, rfl, ⟨_, ha⟩, for_list (xs := ns.map V.str) (fun i σ H' => Same H H' ∧ ∃ z, σ = [some (.ref a), z]) ⟨Same.refl H, _, rfl⟩ (fun i σ H' _ p => p.1.seq ha) ?_ ?_⟩
      · rintro i x σ H' hi ⟨s1, z, rfl⟩
        obtain ⟨n, rfl, hm⟩ := turn hi
        walk_at "r"
        refine ⟨n, rfl, hm, fun H2 s2 => ?_⟩
        walk_at "r"
        exact ⟨s1.trans s2, _, rfl⟩
      · rintro σ H' ⟨s1, z, rfl⟩
        exact k _ s1
    · refine ⟨_, (pss_cons (ps_if (pt_cmpR op_eq (pe_callB call_len_seq rfl T.b_len (by decide +kernel) (pa_cons (pv 0) pa_nil)) pe_int (nomark _)) (pss_one (ps_never)) pss_nil)
  (pss_one (ps_for PassesOwn.never rfl (pi_tup (pv 0)) (pg_name (i := 1) sc_check_lanes.nd rfl (Or.inl rfl)) (pss_one (ps_if (pt_not (pt_val (C8.pe_c c_is_name hr (by omega) rfl (pa_cons (pv 1) pa_nil)))) (pss_one (ps_never)) pss_nil))))), ?_⟩
      walk_at "r"
      refine ⟨a, _, rfl, .inr ha, ?_⟩
      walk_at "r"
      refine r_eq rfl ?_
      walk_at "r"
      refine r_no el ?_
      walk_at "r"
      refine ⟨_, rfl, ⟨_, ha⟩, for_tup (xs := ns.map V.str) (fun i σ H' => Same H H' ∧ ∃ z, σ = [some (.ref a), z]) ⟨Same.refl H, _, rfl⟩ (fun i σ H' _ p => p.1.seqT ha) ?_ ?_⟩
      · rintro i x σ H' hi ⟨s1, z, rfl⟩
        obtain ⟨n, rfl, hm⟩ := turn hi
        walk_at "r"
        refine ⟨n, rfl, hm, fun H2 s2 => ?_⟩
        walk_at "r"
        exact ⟨s1.trans s2, _, rfl⟩
      · rintro σ H' ⟨s1, z, rfl⟩
        exact k _ s1
end
end K48
/-! ## KD2 -/
set_option maxHeartbeats 4000000
namespace K48
open PySem L2
local macro_rules | `(tactic| walk_at "r1") => `(tactic| first
  | with_reducible refine r_seq ?_ | with_reducible refine r_asg ?_ | with_reducible refine r_ret ?_ | with_reducible refine r_drop ?_ | with_reducible refine r_if ?_ | with_reducible refine r_next ?_
  | with_reducible refine r_name ?_ | with_reducible refine r_c ?_ | ((with_reducible show tVar _ _ _ _); refine r_var rfl ?_) | with_reducible refine r_op ?_ | with_reducible refine r_un ?_
  | with_reducible refine r_i0 ?_ | with_reducible refine r_test ?_ | with_reducible refine r_tB ?_ | with_reducible refine r_bl ?_ | with_reducible refine r_and ?_ | with_reducible refine r_or ?_
  | with_reducible refine r_not ?_ | with_reducible refine r_ifE ?_ | with_reducible refine r_cons ?_ | with_reducible refine r_nil ?_ | with_reducible refine r_cb ?_ | with_reducible refine r_call ?_
  | with_reducible refine r_lst ?_ | with_reducible refine r_tup ?_ | with_reducible refine r_sl ?_ | with_reducible refine r_noP ?_ | with_reducible refine r_part ?_ | with_reducible refine r_exI ?_
  | with_reducible refine r_tr ?_ | with_reducible refine r_fa ?_ | with_reducible refine r_for ?_ | with_reducible refine r_iList ?_ | with_reducible refine r_iTup ?_ | with_reducible refine r_iStr ?_
  | with_reducible refine r_iR1 ?_ | with_reducible refine r_iR2 ?_ | with_reducible refine r_lc ?_ | with_reducible refine r_nt ?_ | with_reducible refine r_nf ?_ | with_reducible refine r_orV ?_ | with_reducible refine r_andV ?_ | with_reducible refine r_yesT ?_ | with_reducible refine r_gsub ?_ | with_reducible refine r_gcons ?_ | with_reducible refine r_gnil ?_ | with_reducible refine r_bm ?_ | with_reducible refine r_bm0 ?_
  | with_reducible refine r_fld ?_ | with_reducible refine r_sfld ?_ | with_reducible refine r_meth ?_ | with_reducible refine r_make ?_ | with_reducible refine r_dget ?_ | with_reducible refine r_din ?_ | with_reducible refine r_dnin ?_ | with_reducible refine r_dput ?_
  | with_reducible refine r_dgetN ?_ | with_reducible refine r_dinN ?_ | with_reducible refine r_dninN ?_ | with_reducible refine r_dputN ?_ | ((with_reducible show tAug _ _ _ _ _ _); refine r_aug rfl ?_) | with_reducible refine r_par ?_ | with_reducible refine r_neg ?_ | with_reducible refine r_iEnum ?_ | with_reducible refine r_iZip ?_ | with_reducible refine r_iZipA ?_)
local macro_rules | `(tactic| walk_at "r") => `(tactic| repeat walk_at "r1")

/-! cells, the pool, draws -/
/-- the pool: a list of three; n bounds its count -/
def Pl (H : Hp) (p : Addr) (n : Nat) : Prop := ∃ a b k : Int, H p = some (.lst [.int a, .int b, .int k]) ∧ 0 ≤ a ∧ 0 ≤ b ∧ b < 1000000007 ∧ 0 ≤ k ∧ k ≤ n
theorem Pl.mono {H : Hp} {p : Addr} {n m : Nat} (h : Pl H p n) (hm : n ≤ m) : Pl H p m := by
  obtain ⟨a, b, k, h1, h2, h3, h4, h5, h6⟩ := h
  exact ⟨a, b, k, h1, h2, h3, h4, h5, by omega⟩
theorem Pl.ne {H : Hp} {p : Addr} {n : Nat} (h : Pl H p n) : H p ≠ none := by
  obtain ⟨a, b, k, h1, _⟩ := h
  rw [h1]; intro z; cases z
theorem Pl.off {H H' : Hp} {p : Addr} {n : Nat} (h : Pl H p n) (s : H' p = H p) : Pl H' p n := by
  obtain ⟨a, b, k, h1, h2⟩ := h
  exact ⟨a, b, k, s.trans h1, h2⟩
theorem Pl.same {H H' : Hp} {p : Addr} {n : Nat} (h : Pl H p n) (s : Same H H') : Pl H' p n := by
  obtain ⟨a, b, k, h1, h2⟩ := h
  exact ⟨a, b, k, s _ _ h1, h2⟩
theorem Pl.new {H : Hp} {p q : Addr} {o : HO} {n : Nat} (h : Pl H p n) (hq : H q = none) : Pl (upd H q o) p n := h.same (same_upd hq)
theorem Pl.upd {H : Hp} {p q : Addr} {o : HO} {n : Nat} (h : Pl H p n) (hq : p ≠ q) : Pl (L2.upd H q o) p n := h.off (upd_ne hq)
def spCellL (K : PySem.W.Frag) : Sp := fun vs H Q _ => ∃ (l : Addr) (ns : List Int) (j : Nat), vs = [V.ref l, V.int (j : Nat)] ∧ SqL K H l (ns.map V.int) ∧ ∀ i : Int, Q (.int i) H
def spPool : Sp := fun vs H Q _ => ∃ i : Int, vs = [V.int i] ∧ ∀ p o, H p = none → Pl (upd H p o) p 0 → Q (.ref p) (upd H p o)
def spTake : Sp := fun vs H Q _ => ∃ (p : Addr) (m n : Nat), vs = [V.ref p, V.int (m : Nat)] ∧ 0 < m ∧ m < 1000 ∧ Pl H p n ∧ n ≤ 1000000000000 ∧ ∀ (r : Nat) (o : HO), r < m → Pl (upd H p o) p (n + 1) → Q (.int (r : Nat)) (upd H p o)
section
variable {P : Program} {w : World} {K : PySem.W.Frag} {mg : Str → Option Value} {base : Heap}
abbrev st__law_cell : Stmt := topS 72
abbrev N__law_cell : List Str := ["_law_script", "_law_k"]
theorem sc__law_cell : FnScope N__law_cell ["_law_script", "_law_k"] (defScope st__law_cell) := ⟨rfl, rfl, rfl, by decide +kernel, rfl, by decide +kernel, by decide +kernel⟩
theorem ok__law_cell (T : Top K mg) (F : Dn K mg "_law_cell" st__law_cell) : Cal P w K mg base 1 "_law_cell" (spCellL K) := by
  refine F.cal sc__law_cell (fun vs H Q E h => ?_) (fun _ _ _ _ _ _ us hl => match us, hl with | [_, _], _ => rfl) (fun f cdv A outer s H vs Q E hr h => ?_)
  · obtain ⟨l, ns, j, rfl, _⟩ := h
    rfl
  · obtain ⟨l, ns, j, rfl, hs, k⟩ := h
    refine ⟨_, (pss_cons (ps_if (pt_cmpR op_lt (pv 1) (pe_callB call_len_seq rfl T.b_len (by decide +kernel) (pa_cons (pv 0) pa_nil)) (nomark _)) (pss_one (ps_ret (pe_ix ix_list (pv 0) (pv 1) (fun _ _ => rfl)))) pss_nil)
  (pss_one (ps_ret pe_int))), ?_⟩
    walk_at "r"
    refine ⟨l, _, rfl, .inl hs, ?_⟩
    walk_at "r"
    by_cases c : j < ns.length
    · refine r_yes (decide_eq_true (by rw [List.length_map]; omega)) ?_
      walk_at "r"
      exact ⟨l, _, _, _, rfl, rfl, hs, atI_cell c, k _⟩
    · refine r_no (decide_eq_false (by rw [List.length_map]; omega)) ?_
      walk_at "r"
      exact k _
abbrev st__law_pool : Stmt := topS 73
abbrev N__law_pool : List Str := ["_law_cell_here", "_law_folded"]
theorem sc__law_pool : FnScope N__law_pool ["_law_cell_here"] (defScope st__law_pool) := ⟨rfl, rfl, rfl, by decide +kernel, rfl, by decide +kernel, by decide +kernel⟩
theorem ok__law_pool (T : Top K mg) (F : Dn K mg "_law_pool" st__law_pool) : Cal P w K mg base 1 "_law_pool" spPool := by
  refine F.cal sc__law_pool (fun vs H Q E h => ?_) (fun _ _ _ _ _ _ us hl => match us, hl with | [_], _ => rfl) (fun f cdv A outer s H vs Q E hr h => ?_)
  · obtain ⟨i, rfl, _⟩ := h
    rfl
  · obtain ⟨i, rfl, k⟩ := h
    have two : ∀ j : Int, CMul 2 j := fun j => .inl ⟨by decide, by decide⟩
    have fin : ∀ j : Int, 0 ≤ j → ∀ p, H p = none → Q (.ref p) (upd H p (.lst [.int j, .int (j % 1000000007), .int 0])) := fun j hj p hp => k p _ hp
      ⟨j, j % 1000000007, 0, upd_same, hj, Int.emod_nonneg _ (by decide), Int.emod_lt_of_pos _ (by decide), by decide, by decide⟩
    have fin0 : ∀ j : Int, 0 ≤ j → ∀ p, H p = none → Q (.ref p) (upd H p (.lst [.int 0, .int (j % 1000000007), .int 0])) := fun j hj p hp => k p _ hp
      ⟨0, j % 1000000007, 0, upd_same, by decide, Int.emod_nonneg _ (by decide), Int.emod_lt_of_pos _ (by decide), by decide, by decide⟩
    refine ⟨_, (pss_cons (ps_set (i := 1) sc__law_pool.nd rfl (Or.inl rfl) (pe_op op_mul pe_int (pv 0)))
  (pss_cons (ps_if (pt_cmpR op_lt (pv 0) pe_int (nomark _)) (pss_one (ps_set (i := 1) sc__law_pool.nd rfl (Or.inl rfl) (pe_op op_sub (pe_op op_sub pe_int (pe_op op_mul pe_int (pv 0))) pe_int))) pss_nil)
  (pss_cons (ps_if (pt_cmpR op_ge (pv 1) (pe_op op_pow pe_int pe_int) (nomark _)) (pss_one (ps_ret (pe_lst (pa_cons (pv 1) (pa_cons (pe_op op_mod (pe_callTy call_int1 rfl T.b_int (by decide +kernel) (pa_cons (pv 1) pa_nil)) pe_int) (pa_cons pe_int pa_nil)))))) pss_nil)
  (pss_one (ps_ret (pe_lst (pa_cons pe_int (pa_cons (pe_op op_mod (pe_callTy call_int1 rfl T.b_int (by decide +kernel) (pa_cons (pv 1) pa_nil)) pe_int) (pa_cons pe_int pa_nil))))))))), ?_⟩
    walk_at "r"
    refine r_i (two _) ?_
    walk_at "r"
    by_cases c : i < 0
    · refine r_yes (decide_eq_true c) ?_
      walk_at "r"
      refine r_i (two _) ?_
      walk_at "r"
      refine r_i ⟨by decide, by decide, by decide⟩ ?_
      walk_at "r"
      by_cases c2 : (10 : Int) ^ (18 : Int).toNat ≤ 0 - 2 * i - 1
      · refine r_yes (decide_eq_true c2) ?_
        walk_at "r"
        refine .inl ⟨_, rfl, ?_⟩
        walk_at "r"
        refine r_i (by decide) ?_
        walk_at "r"
        exact ⟨sz_lit rfl, fin _ (by omega)⟩
      · refine r_no (decide_eq_false c2) ?_
        walk_at "r"
        refine .inl ⟨_, rfl, ?_⟩
        walk_at "r"
        refine r_i (by decide) ?_
        walk_at "r"
        exact ⟨sz_lit rfl, fin0 _ (by omega)⟩
    · refine r_no (decide_eq_false c) ?_
      walk_at "r"
      refine r_i ⟨by decide, by decide, by decide⟩ ?_
      walk_at "r"
      by_cases c2 : (10 : Int) ^ (18 : Int).toNat ≤ 2 * i
      · refine r_yes (decide_eq_true c2) ?_
        walk_at "r"
        refine .inl ⟨_, rfl, ?_⟩
        walk_at "r"
        refine r_i (by decide) ?_
        walk_at "r"
        exact ⟨sz_lit rfl, fin _ (by omega)⟩
      · refine r_no (decide_eq_false c2) ?_
        walk_at "r"
        refine .inl ⟨_, rfl, ?_⟩
        walk_at "r"
        refine r_i (by decide) ?_
        walk_at "r"
        exact ⟨sz_lit rfl, fin0 _ (by omega)⟩
abbrev st__law_take : Stmt := topS 74
abbrev N__law_take : List Str := ["_law_pool_here", "_law_many_here", "_law_draw", "_law_mixed_here"]
theorem sc__law_take : FnScope N__law_take ["_law_pool_here", "_law_many_here"] (defScope st__law_take) := ⟨rfl, rfl, rfl, by decide +kernel, rfl, by decide +kernel, by decide +kernel⟩
theorem ok__law_take (T : Top K mg) (F : Dn K mg "_law_take" st__law_take) : Cal P w K mg base 1 "_law_take" spTake := by
  refine F.cal sc__law_take (fun vs H Q E h => ?_) (fun _ _ _ _ _ _ us hl => match us, hl with | [_, _], _ => rfl) (fun f cdv A outer s H vs Q E hr h => ?_)
  · obtain ⟨p, m, n, rfl, _⟩ := h
    rfl
  · obtain ⟨p, m, n, rfl, m0, m1, ⟨a, b, k, hp, ha, hb, hb2, hk, hk2⟩, hn, q⟩ := h
    have fin : ∀ (j : Int) (o : HO), (∃ a' b' k' : Int, o = (.lst [.int a', .int b', .int k']) ∧ 0 ≤ a' ∧ 0 ≤ b' ∧ b' < 1000000007 ∧ 0 ≤ k' ∧ k' ≤ n + 1) → Q (.int (j % (m : Int))) (upd H p o) := fun j o ho => by
      have h1 : 0 ≤ j % (m : Int) := Int.emod_nonneg _ (by omega)
      have h2 : j % (m : Int) < m := Int.emod_lt_of_pos _ (by omega)
      have e : j % (m : Int) = ((j % (m : Int)).toNat : Nat) := (Int.toNat_of_nonneg h1).symm
      rw [e]
      obtain ⟨a', b', k', rfl, h3⟩ := ho
      exact q _ _ (by omega) ⟨a', b', k', upd_same, h3.1, h3.2.1, h3.2.2.1, h3.2.2.2.1, by omega⟩
    have g0 : ∀ {H1 : Hp} {x y z : V} {Q : VK}, H1 p = some (.lst [x, y, z]) → Q x H1 → rIxL K (.ref p) (.int 0) H1 Q := fun h k => ⟨p, _, _, _, rfl, rfl, .of h, rfl, k⟩
    have g1 : ∀ {H1 : Hp} {x y z : V} {Q : VK}, H1 p = some (.lst [x, y, z]) → Q y H1 → rIxL K (.ref p) (.int 1) H1 Q := fun h k => ⟨p, _, _, _, rfl, rfl, .of h, rfl, k⟩
    have g2 : ∀ {H1 : Hp} {x y z : V} {Q : VK}, H1 p = some (.lst [x, y, z]) → Q z H1 → rIxL K (.ref p) (.int 2) H1 Q := fun h k => ⟨p, _, _, _, rfl, rfl, .of h, rfl, k⟩
    refine ⟨_, (pss_cons (ps_if (pt_cmpR op_gt (pe_ix ix_list (pv 0) pe_int (fun _ _ => rfl)) pe_int (nomark _)) (pss_cons (ps_set (i := 2) sc__law_take.nd rfl (Or.inl rfl) (pe_op op_mod (pe_callTy call_int1 rfl T.b_int (by decide +kernel) (pa_cons (pe_ix ix_list (pv 0) pe_int (fun _ _ => rfl)) pa_nil)) (pv 1)))
  (pss_cons (ps_asg (pe_op op_fdiv (pe_ix ix_list (pv 0) pe_int (fun _ _ => rfl)) (pv 1)) (pg_sub (pv 0) pe_int set_list))
  (pss_one (ps_ret (pv 2))))) pss_nil)
  (pss_cons (ps_asg (pe_op op_add (pe_ix ix_list (pv 0) pe_int (fun _ _ => rfl)) pe_int) (pg_sub (pv 0) pe_int set_list))
  (pss_cons (ps_set (i := 3) sc__law_take.nd rfl (Or.inl rfl) (pe_op op_mod (pe_callTy call_int1 rfl T.b_int (by decide +kernel) (pa_cons (pe_op op_pow (pe_op op_add (pe_op op_add (pe_ix ix_list (pv 0) pe_int (fun _ _ => rfl)) (pe_op op_mul pe_int (pe_ix ix_list (pv 0) pe_int (fun _ _ => rfl)))) pe_int) pe_int) pa_nil)) pe_int))
  (pss_one (ps_ret (pe_op op_mod (pe_op op_mod (pe_callTy call_int1 rfl T.b_int (by decide +kernel) (pa_cons (pe_op op_mul (pe_op op_add (pv 3) (pe_ix ix_list (pv 0) pe_int (fun _ _ => rfl))) pe_int) pa_nil)) pe_int) (pv 1))))))), ?_⟩
    walk_at "r"
    refine g0 hp ?_
    walk_at "r"
    by_cases c : 0 < a
    · refine r_yes (decide_eq_true c) ?_
      walk_at "r"
      refine g0 hp ?_
      refine .inl ⟨_, rfl, ?_⟩
      walk_at "r"
      refine r_i (by omega) ?_
      walk_at "r"
      refine g0 hp ?_
      walk_at "r"
      refine r_i ⟨by omega, by omega⟩ ?_
      walk_at "r"
      refine r_setL (j := 0) hp (by show 0 < 3; decide) ?_
      walk_at "r"
      exact fin _ _ ⟨_, _, _, rfl, Int.ediv_nonneg ha (by omega), hb, hb2, hk, by omega⟩
    · refine r_no (decide_eq_false c) ?_
      walk_at "r"
      refine g2 hp ?_
      walk_at "r"
      refine r_setL (j := 2) hp (by show 2 < 3; decide) ?_
      have hp2 : ∀ {o : HO}, upd H p o p = some o := upd_same
      walk_at "r"
      refine g1 hp2 ?_
      walk_at "r"
      refine g2 hp2 ?_
      walk_at "r"
      refine r_i (.inl ⟨by decide, by decide⟩) ?_
      walk_at "r"
      refine r_i ⟨by decide, by decide, by omega⟩ ?_
      refine .inl ⟨_, rfl, ?_⟩
      walk_at "r"
      refine r_i (by decide) ?_
      walk_at "r"
      refine g2 hp2 ?_
      walk_at "r"
      refine r_i (.inr ⟨by decide, by decide⟩) ?_
      refine .inl ⟨_, rfl, ?_⟩
      walk_at "r"
      refine r_i (by decide) ?_
      walk_at "r"
      refine r_i (by omega) ?_
      exact fin _ _ ⟨_, _, _, rfl, ha, hb, hb2, by omega, by omega⟩
end
end K48
/-! ## KD3 -/
set_option maxHeartbeats 4000000
namespace K48
open PySem L2
local macro_rules | `(tactic| walk_at "r1") => `(tactic| first
  | with_reducible refine r_seq ?_ | with_reducible refine r_asg ?_ | with_reducible refine r_ret ?_ | with_reducible refine r_drop ?_ | with_reducible refine r_if ?_ | with_reducible refine r_next ?_
  | with_reducible refine r_name ?_ | with_reducible refine r_c ?_ | ((with_reducible show tVar _ _ _ _); refine r_var rfl ?_) | with_reducible refine r_op ?_ | with_reducible refine r_un ?_
  | with_reducible refine r_i0 ?_ | with_reducible refine r_test ?_ | with_reducible refine r_tB ?_ | with_reducible refine r_bl ?_ | with_reducible refine r_and ?_ | with_reducible refine r_or ?_
  | with_reducible refine r_not ?_ | with_reducible refine r_ifE ?_ | with_reducible refine r_cons ?_ | with_reducible refine r_nil ?_ | with_reducible refine r_cb ?_ | with_reducible refine r_call ?_
  | with_reducible refine r_lst ?_ | with_reducible refine r_tup ?_ | with_reducible refine r_sl ?_ | with_reducible refine r_noP ?_ | with_reducible refine r_part ?_ | with_reducible refine r_exI ?_
  | with_reducible refine r_tr ?_ | with_reducible refine r_fa ?_ | with_reducible refine r_for ?_ | with_reducible refine r_iList ?_ | with_reducible refine r_iTup ?_ | with_reducible refine r_iStr ?_
  | with_reducible refine r_iR1 ?_ | with_reducible refine r_iR2 ?_ | with_reducible refine r_lc ?_ | with_reducible refine r_nt ?_ | with_reducible refine r_nf ?_ | with_reducible refine r_orV ?_ | with_reducible refine r_andV ?_ | with_reducible refine r_yesT ?_ | with_reducible refine r_gsub ?_ | with_reducible refine r_gcons ?_ | with_reducible refine r_gnil ?_ | with_reducible refine r_bm ?_ | with_reducible refine r_bm0 ?_
  | with_reducible refine r_fld ?_ | with_reducible refine r_sfld ?_ | with_reducible refine r_meth ?_ | with_reducible refine r_make ?_ | with_reducible refine r_dget ?_ | with_reducible refine r_din ?_ | with_reducible refine r_dnin ?_ | with_reducible refine r_dput ?_
  | with_reducible refine r_dgetN ?_ | with_reducible refine r_dinN ?_ | with_reducible refine r_dninN ?_ | with_reducible refine r_dputN ?_ | ((with_reducible show tAug _ _ _ _ _ _); refine r_aug rfl ?_) | with_reducible refine r_par ?_ | with_reducible refine r_neg ?_ | with_reducible refine r_iEnum ?_ | with_reducible refine r_iZip ?_ | with_reducible refine r_iZipA ?_)
local macro_rules | `(tactic| walk_at "r") => `(tactic| repeat walk_at "r1")

/-! drawing: frames with the pool -/
/-- from H to H1 the pool p alone changed, what is new aside; n bounds its count -/
structure Dr (p : Addr) (n : Nat) (H H1 : Hp) : Prop where
  off : Off (· = p) H H1
  pl : Pl H1 p n
  st : H p ≠ none
section
variable {p q : Addr} {n m : Nat} {H H1 H2 : Hp} {o : HO} {Q : VK} {E : XK}
theorem Dr.refl (h : Pl H p n) : Dr p n H H := ⟨(Same.refl H).off, h, h.ne⟩
theorem Dr.mono (d : Dr p n H H1) (h : n ≤ m) : Dr p m H H1 := ⟨d.off, d.pl.mono h, d.st⟩
theorem Dr.keep (d : Dr p n H H1) (h : H q ≠ none) : H1 q ≠ none := by
  by_cases hq : q = p
  · subst hq; exact d.pl.ne
  · cases e : H q with
    | none => exact absurd e h
    | some u => rw [d.off q u hq e]; intro z; cases z
theorem Dr.free (d : Dr p n H H1) (h : H1 q = none) : H q = none := by
  cases e : H q with
  | none => rfl
  | some u => exact absurd h (d.keep (by rw [e]; intro z; cases z))
theorem Dr.ne (d : Dr p n H H1) (h : H q = none) : p ≠ q := fun z => d.st (z ▸ h)
theorem Dr.ne1 (d : Dr p n H H1) (h : H1 q = none) : p ≠ q := fun z => d.pl.ne (z ▸ h)
theorem Dr.put (d : Dr p n H H1) (h : Pl (upd H1 p o) p m) : Dr p m H (upd H1 p o) := ⟨fun a u z e => by rw [upd_ne z]; exact d.off a u z e, h, d.st⟩
theorem Dr.upd (d : Dr p n H H1) (h : H q = none) : Dr p n H (L2.upd H1 q o) := ⟨fun a u z e => by rw [upd_ne (ne_of_none e h)]; exact d.off a u z e, d.pl.upd (d.ne h), d.st⟩
theorem Dr.new (d : Dr p n H H1) (h : H1 q = none) : Dr p n H (L2.upd H1 q o) := d.upd (d.free h)
theorem Dr.trans (d : Dr p n H H1) (e : Dr p m H1 H2) : Dr p m H H2 := ⟨d.off.trans e.off, e.pl, d.st⟩
theorem Dr.same (d : Dr p n H H1) (s : Same H1 H2) : Dr p n H H2 := ⟨d.off.trans s.off, d.pl.same s, d.st⟩
/-- a draw -/
theorem r_take (d : Dr p n H H1) (h0 : 0 < m) (h1 : m < 1000) (hn : n ≤ 1000000000000) (k : ∀ (r : Nat) (o : HO), r < m → Dr p (n + 1) H (L2.upd H1 p o) → Q (.int (r : Nat)) (L2.upd H1 p o)) : spTake [.ref p, .int (m : Nat)] H1 Q E :=
  ⟨p, m, n, rfl, h0, h1, d.pl, hn, fun r o hr hp => k r o hr (d.put hp)⟩
end
/-! names that are drawn -/
theorem atI_lt {α : Type} {xs : List α} {j : Nat} (h : j < xs.length) : atI xs (j : Int) = some xs[j] := atI_nat (List.getElem?_eq_getElem h)
theorem r_ixS {z : Str} {j : Nat} {H : Hp} {Q : VK} (hj : j < z.cps.toList.length) (hz : z.cps.toList.length ≤ 100000) (k : Q (.str ⟨#[z.cps.toList[j]]⟩) H) : rIxS (.str z) (.int (j : Nat)) H Q :=
  ⟨z, _, _, rfl, rfl, by have : z.length = z.cps.toList.length := by simp [Str.length]
                         rw [this]; exact small_sz hz, atI_lt hj, k⟩
theorem str_len (z : Str) : z.length = z.cps.toList.length := by simp [Str.length]
theorem cps_app (a b : Str) : (a ++ b).cps.toList = a.cps.toList ++ b.cps.toList := Array.toList_append ..
theorem cps_to (z : Str) (k : Nat) : (cutS z none (some (k : Int))).cps.toList = z.cps.toList.take k := by
  unfold cutS
  rw [HT.sIx_none, HT.sIx_nat, List.drop_zero, Nat.sub_zero, str_len]
  show z.cps.toList.take (min k z.cps.toList.length) = _
  by_cases h : k ≤ z.cps.toList.length
  · rw [Nat.min_eq_left h]
  · rw [Nat.min_eq_right (by omega), List.take_of_length_le (Nat.le_refl _), List.take_of_length_le (by omega)]
theorem cps_from (z : Str) (k : Nat) : (cutS z (some (k : Int)) none).cps.toList = z.cps.toList.drop k := by
  unfold cutS
  rw [HT.sIx_none, HT.sIx_nat, str_len]
  show (z.cps.toList.drop (min k z.cps.toList.length)).take (z.cps.toList.length - min k z.cps.toList.length) = _
  rw [List.take_of_length_le (by rw [List.length_drop]; omega)]
  by_cases h : k ≤ z.cps.toList.length
  · rw [Nat.min_eq_left h]
  · rw [Nat.min_eq_right (by omega), List.drop_eq_nil_of_le (Nat.le_refl _), List.drop_eq_nil_of_le (by omega)]
theorem r_ifV {σ : St} {H : Hp} {Q : VK} {c : Bool} {i j : Nat} {x y : V} (h1 : σ[i]? = some (some x)) (h2 : σ[j]? = some (some y)) (k : Q (if c = true then x else y) H) : if c = true then tVar i σ H Q else tVar j σ H Q := by
  cases c with
  | true => exact ⟨x, h1, k⟩
  | false => exact ⟨y, h2, k⟩
/-- a stem: a letter and at most k signs -/
def Stem (z : Str) (k : Nat) : Prop := ∃ c l, z.cps.toList = c :: l ∧ l.length ≤ k ∧ c ∈ lets ∧ ∀ x ∈ l, x ∈ lets ∨ x ∈ digs
abbrev lettersS : Str := Str.ofString "abcdefghijklmnopqrstuvwxyz"
abbrev signsS : Str := lettersS ++ Str.ofString "0123456789"
theorem letters_len : lettersS.cps.toList.length = 26 := by decide +kernel
theorem signs_len : signsS.cps.toList.length = 36 := by decide +kernel
theorem signs_mem {c : Nat} (h : c ∈ signsS.cps.toList) : c ∈ lets ∨ c ∈ digs := by
  rw [cps_app] at h
  exact List.mem_append.mp h
theorem letters_inj : ∀ a, a < 26 → ∀ b, b < 26 → lettersS.cps.toList[a]? = lettersS.cps.toList[b]? → a = b := by decide +kernel
theorem signs_inj : ∀ a, a < 36 → ∀ b, b < 36 → signsS.cps.toList[a]? = signsS.cps.toList[b]? → a = b := by decide +kernel
theorem nodup_key {ns : List Str} {q : Nat} {key : Nat → Option Nat} (h : ∀ j z, ns[j]? = some z → z.cps.toList[q]? = key j) (inj : ∀ i j, i < j → j < ns.length → key i ≠ key j) : ns.Nodup := by
  rw [List.nodup_iff_pairwise_ne, List.pairwise_iff_getElem]
  intro i j hi hj hij e
  refine inj i j hij hj ?_
  rw [← h i _ (List.getElem?_eq_getElem hi), ← h j _ (List.getElem?_eq_getElem hj), e]
theorem stem_cut {z : Str} {k : Nat} {c x : Nat} (h : Stem z k) (hk : k ≤ 6) (hx : x ∈ lets) (m : Nat) : IsNm ((⟨#[x]⟩ : Str) ++ cutS z none (some (m : Int))) := by
  obtain ⟨c, l, e, hl, hc, ha⟩ := h
  refine ⟨x, (c :: l).take m, ?_, ?_, hx, ?_⟩
  · rw [cps_app, cps_to, e]; rfl
  · have := List.length_take_le m (c :: l)
    have h2 : (c :: l).length = l.length + 1 := rfl
    have h3 := List.length_take_le' m (c :: l)
    omega
  · intro y hy
    rcases List.mem_cons.mp (List.mem_of_mem_take hy) with rfl | hy
    · exact .inl hc
    · exact ha y hy
theorem stem_in {z : Str} {k x pl : Nat} (h : Stem z k) (hk : k ≤ 6) (hp : pl ≤ z.cps.toList.length) (hx : x ∈ lets ∨ (x ∈ digs ∧ pl ≠ 0)) :
    IsNm ((cutS z none (some (pl : Int)) ++ (⟨#[x]⟩ : Str)) ++ cutS z (some (pl : Int)) none) ∧ ((cutS z none (some (pl : Int)) ++ (⟨#[x]⟩ : Str)) ++ cutS z (some (pl : Int)) none).cps.toList[pl]? = some x := by
  obtain ⟨c, l, e, hl, hc, ha⟩ := h
  have e1 : ((cutS z none (some (pl : Int)) ++ (⟨#[x]⟩ : Str)) ++ cutS z (some (pl : Int)) none).cps.toList = ((c :: l).take pl ++ [x]) ++ (c :: l).drop pl := by rw [cps_app, cps_app, cps_to, cps_from, e]
  rw [e] at hp
  have sg : ∀ y ∈ c :: l, y ∈ lets ∨ y ∈ digs := fun y hy => by
    rcases List.mem_cons.mp hy with rfl | hy
    · exact .inl hc
    · exact ha y hy
  refine ⟨?_, ?_⟩
  · cases pl with
    | zero =>
      refine ⟨x, c :: l, e1, ?_, hx.resolve_right fun z => z.2 rfl, sg⟩
      rw [List.length_cons]; omega
    | succ i =>
      refine ⟨c, l.take i ++ [x] ++ l.drop i, ?_, ?_, hc, ?_⟩
      · rw [e1]; rfl
      · rw [List.length_append, List.length_append, List.length_take, List.length_drop]
        show min i l.length + 1 + (l.length - i) ≤ 7
        omega
      · intro y hy
        rcases List.mem_append.mp hy with hy | hy
        · rcases List.mem_append.mp hy with hy | hy
          · exact ha y (List.mem_of_mem_take hy)
          · rw [List.mem_singleton.mp hy]
            exact hx.imp id (·.1)
        · exact ha y (List.mem_of_mem_drop hy)
  · rw [e1, List.append_assoc, List.getElem?_append_right (by rw [List.length_take]; omega), List.length_take, Nat.min_eq_left hp, Nat.sub_self]
    rfl
/-- names, all different -/
structure Names (ns : List Str) : Prop where
  nd : ns.Nodup
  nm : ∀ z ∈ ns, IsNm z
def spMany : Sp := fun vs H Q _ => ∃ (p : Addr) (m n : Nat), vs = [V.ref p, V.int (m : Nat)] ∧ m ≤ 26 ∧ Pl H p n ∧ n ≤ 900000000000 ∧
  ∀ (q : Addr) (ns : List Str) (H' : Hp), Dr p (n + 100) H H' → H q = none → H' q = some (.lst (ns.map V.str)) → ns.length = m → Names ns → Q (.ref q) H'
section
variable {P : Program} {w : World} {K : PySem.W.Frag} {mg : Str → Option Value} {base : Heap}
abbrev st__law_many : Stmt := topS 75
abbrev N__law_many : List Str := ["_law_pool_here", "_law_many_here", "_law_letters", "_law_signs", "_law_stem", "_law_k", "_law_place", "_law_told_here", "_law_start", "_law_names", "_law_sign"]
theorem sc__law_many : FnScope N__law_many ["_law_pool_here", "_law_many_here"] (defScope st__law_many) := ⟨rfl, rfl, rfl, by decide +kernel, rfl, by decide +kernel, by decide +kernel⟩
theorem ok__law_many (T : Top K mg) (F : Dn K mg "_law_many" st__law_many) (c__law_take : Cal P w K mg base 1 "_law_take" spTake) : Cal P w K mg base 2 "_law_many" spMany := by
  refine F.cal sc__law_many (fun vs H Q E h => ?_) (fun _ _ _ _ _ _ us hl => match us, hl with | [_, _], _ => rfl) (fun f cdv A outer s H vs Q E hr h => ?_)
  · obtain ⟨p, m, n, rfl, _⟩ := h
    rfl
  · obtain ⟨p, m, n, rfl, hm, hp, hn, k⟩ := h
    refine ⟨_, (pss_cons (ps_set (i := 2) sc__law_many.nd rfl (Or.inr rfl) pe_str)
  (pss_cons (ps_set (i := 3) sc__law_many.nd rfl (Or.inl rfl) (pe_op op_add_str (pv 2) pe_str))
  (pss_cons (ps_set (i := 4) sc__law_many.nd rfl (Or.inr rfl) (pe_ix ix_str (pv 2) (C8.pe_c c__law_take hr (by omega) rfl (pa_cons (pv 0) (pa_cons pe_int pa_nil))) (fun _ _ => rfl)))
  (pss_cons (ps_for PassesOwn.never rfl (pi_range1 rfl T.b_range (pa_cons (C8.pe_c c__law_take hr (by omega) rfl (pa_cons (pv 0) (pa_cons pe_int pa_nil))) pa_nil)) (pg_name (i := 5) sc__law_many.nd rfl (Or.inl rfl)) (pss_one (ps_set (i := 4) sc__law_many.nd rfl (Or.inr rfl) (pe_op op_add_str (pv 4) (pe_ix ix_str (pv 3) (C8.pe_c c__law_take hr (by omega) rfl (pa_cons (pv 0) (pa_cons pe_int pa_nil))) (fun _ _ => rfl))))))
  (pss_cons (ps_set (i := 6) sc__law_many.nd rfl (Or.inl rfl) (C8.pe_c c__law_take hr (by omega) rfl (pa_cons (pv 0) (pa_cons (pe_op op_add (pe_callB call_len_str rfl T.b_len (by decide +kernel) (pa_cons (pv 4) pa_nil)) pe_int) pa_nil))))
  (pss_cons (ps_set (i := 7) sc__law_many.nd rfl (Or.inl rfl) (pe_ifExp (pt_cmpR op_eq (pv 6) pe_int (nomark _)) (pv 2) (pv 3)))
  (pss_cons (ps_set (i := 8) sc__law_many.nd rfl (Or.inr rfl) (C8.pe_c c__law_take hr (by omega) rfl (pa_cons (pv 0) (pa_cons pe_int pa_nil))))
  (pss_cons (ps_if (pt_cmpR op_eq (C8.pe_c c__law_take hr (by omega) rfl (pa_cons (pv 0) (pa_cons pe_int pa_nil))) pe_int (nomark _)) (pss_one (ps_ret (pe_lc (own := [("_law_k", 5)]) (g := (gName 5)) (tt := tYes) rfl sc__law_many.nd (pi_range1 rfl T.b_range (pa_cons (pv 1) pa_nil)) (blkOk_by (N := N__law_many) (sc := defScope st__law_many) (by decide +kernel)) (fun _ _ _ _ _ => (pg_name (i := 5) sc__law_many.nd rfl (Or.inl rfl))) (fun _ _ _ _ _ => pts_nil) (fun _ _ _ _ _ => (pe_op op_add_str (pe_ix ix_str (pv 2) (pe_op op_mod (pe_op op_add (pv 8) (pe_op op_mul pe_int (pv 5))) pe_int) (fun _ _ => rfl)) (pe_slice sl_str (pv 4) po_none (po_some (C8.pe_c c__law_take hr (by omega) rfl (pa_cons (pv 0) (pa_cons pe_int pa_nil)))))))))) pss_nil)
  (pss_cons (ps_set (i := 9) sc__law_many.nd rfl (Or.inl rfl) (pe_lst pa_nil))
  (pss_cons (ps_for PassesOwn.never rfl (pi_range1 rfl T.b_range (pa_cons (pv 1) pa_nil)) (pg_name (i := 5) sc__law_many.nd rfl (Or.inl rfl)) (pss_cons (ps_set (i := 10) sc__law_many.nd rfl (Or.inl rfl) (pe_ix ix_str (pv 7) (pe_op op_mod (pe_op op_add (pv 8) (pe_op op_mul pe_int (pv 5))) (pe_callB call_len_str rfl T.b_len (by decide +kernel) (pa_cons (pv 7) pa_nil))) (fun _ _ => rfl)))
  (pss_one (ps_expr (pe_bm PySem.F.plainAttrs_list PySem.F.slot_list_append PySem.F.type_list_append mt_append (pv 9) (pa_cons (pe_op op_add_str (pe_op op_add_str (pe_slice sl_str (pv 4) po_none (po_some (pv 6))) (pv 10)) (pe_slice sl_str (pv 4) (po_some (pv 6)) po_none)) pa_nil))))))
  (pss_one (ps_ret (pv 9))))))))))))), ?_⟩
    walk_at "r"
    refine ⟨_, _, rfl, rfl, sz_lit rfl, ?_⟩
    walk_at "r"
    refine r_take (m := 26) (Dr.refl hp) (by decide) (by decide) (by omega) fun r1 o1 hr1 d1 => ?_
    refine r_ixS (by rw [letters_len]; exact hr1) (by rw [letters_len]; decide) ?_
    have hs0 : Stem (⟨#[lettersS.cps.toList[r1]'(by rw [letters_len]; exact hr1)]⟩ : Str) 0 := ⟨_, [], rfl, Nat.le_refl _, List.getElem_mem _, fun x hx => by simp at hx⟩
    revert hs0
    generalize (⟨#[lettersS.cps.toList[r1]'(by rw [letters_len]; exact hr1)]⟩ : Str) = stem0
    intro hs0
    walk_at "r"
    refine r_take (m := 7) d1 (by decide) (by decide) (by omega) fun r2 o2 hr2 d2 => ?_
    refine ⟨_, rfl, by omega, by omega, ?_⟩
    refine for_it (walk_range (lo := 0)) (fun i σ H' => ∃ z x, Stem z i ∧ Dr p (n + 2 + i) H H' ∧ σ = [some (.ref p), some (.int (m : Nat)), some (.str lettersS), some (.str signsS), some (.str z), x, none, none, none, none, none]) ⟨_, _, hs0, d2, rfl⟩ (fun _ _ _ _ _ => trivial) ?_ ?_
    · rintro i x σ H1 H1' hi ⟨z, x0, hz, d, rfl⟩ ⟨rfl, rfl⟩
      have hi' : i < r2 := hi
      walk_at "r"
      refine r_take (m := 36) d (by decide) (by decide) (by omega) fun r o hr d => ?_
      refine r_ixS (by rw [signs_len]; exact hr) (by rw [signs_len]; decide) ?_
      obtain ⟨c, l, e, hl, hc, ha⟩ := hz
      refine ⟨_, _, rfl, rfl, ?_, ?_⟩
      · rw [str_len, str_len, e, List.length_cons]
        show l.length + 1 + 1 ≤ sizeLine
        exact small_sz (by omega)
      walk_at "r"
      refine ⟨_, _, ⟨c, l ++ [signsS.cps.toList[r]'(by rw [signs_len]; exact hr)], ?_, ?_, hc, ?_⟩, d.mono (by omega), rfl⟩
      · rw [cps_app, e]; rfl
      · rw [List.length_append]
        show l.length + 1 ≤ i + 1
        omega
      · intro y hy
        rcases List.mem_append.mp hy with hy | hy
        · exact ha y hy
        · rw [List.mem_singleton.mp hy]
          exact signs_mem (List.getElem_mem _)
    · rintro σ H1 ⟨z, x0, hz, d, rfl⟩
      have hz6 : Stem z 6 := by
        obtain ⟨c, l, e, hl, hc, ha⟩ := hz
        have : l.length ≤ r2 := hl
        exact ⟨c, l, e, by omega, hc, ha⟩
      have hzl : z.cps.toList.length ≤ 7 ∧ 0 < z.cps.toList.length := by
        obtain ⟨c, l, e, hl, hc, ha⟩ := hz6
        rw [e, List.length_cons]; omega
      have dd : Dr p (n + 8) H H1 := d.mono (by omega)
      walk_at "r"
      refine ⟨z, rfl, small_sz (by rw [str_len]; omega), ?_⟩
      walk_at "r"
      have ez : ((z.length : Int) + 1) = ((z.cps.toList.length + 1 : Nat) : Int) := by rw [str_len]; rfl
      rw [ez]
      refine r_take (m := z.cps.toList.length + 1) dd (by omega) (by omega) (by omega) fun pl o hpl d3 => ?_
      walk_at "r"
      refine r_eq rfl ?_
      refine r_bl ?_
      refine r_ifV (i := 2) (j := 3) (x := .str lettersS) (y := .str signsS) rfl rfl ?_
      have htold : ∃ told : Str, (told = lettersS ∨ told = signsS ∧ pl ≠ 0) ∧ (if decide (V.int (pl : Int) = V.int 0) = true then V.str lettersS else V.str signsS) = V.str told := by
        by_cases c : pl = 0
        · subst c
          exact ⟨lettersS, .inl rfl, rfl⟩
        · refine ⟨signsS, .inr ⟨rfl, c⟩, ?_⟩
          rw [if_neg]
          intro q
          have := V.int.inj (of_decide_eq_true q)
          omega
      obtain ⟨told, ht, et⟩ := htold
      rw [et]
      have hlt : told.cps.toList.length = 26 ∨ told.cps.toList.length = 36 := by
        rcases ht with rfl | ⟨rfl, _⟩
        · exact .inl letters_len
        · exact .inr signs_len
      walk_at "r"
      refine r_take (m := 36) d3 (by decide) (by decide) (by omega) fun st o hst d4 => ?_
      walk_at "r"
      refine r_take (m := 3) d4 (by decide) (by decide) (by omega) fun r o hr d5 => ?_
      walk_at "r"
      refine r_eq rfl ?_
      walk_at "r"
      by_cases c0 : decide (V.int (r : Int) = V.int 0) = true
      · refine r_yes c0 ?_
        walk_at "r"
        refine ⟨_, rfl, by omega, by omega, fun Dl hD => ?_⟩
        refine lc_it (walk_range (lo := 0)) (fun i H' => ∃ ns : List Str, ns.length = i ∧ Dr p (n + 11 + i) H H' ∧ H' Dl = some (.lst (ns.map V.str)) ∧ (∀ z ∈ ns, IsNm z) ∧ ∀ j z, ns[j]? = some z → z.cps.toList[0]? = lettersS.cps.toList[(st + 3 * j) % 26]?) ⟨[], rfl, d5.new hD, upd_same, by simp, by simp⟩ (fun _ _ _ _ => trivial) ?_ ?_
        · rintro i x H2 H3 hi ⟨ns, hl, d, hl2, hnm, hk⟩ ⟨rfl, rfl⟩
          have hi' : i < m := hi
          walk_at "r"
          refine ⟨rfl, ?_⟩
          walk_at "r"
          refine r_i (.inl ⟨by decide, by decide⟩) ?_
          walk_at "r"
          refine r_i (by decide) ?_
          have e1 : ((st : Int) + 3 * (0 + (i : Int))) % 26 = (((st + 3 * i) % 26 : Nat) : Int) := by omega
          rw [e1]
          refine r_ixS (by rw [letters_len]; omega) (by rw [letters_len]; decide) ?_
          walk_at "r"
          refine r_take (m := 8) d (by decide) (by decide) (by omega) fun r o hr d => ?_
          walk_at "r"
          refine ⟨z, rfl, small_sz (by rw [str_len]; omega), ?_⟩
          have hnew := stem_cut (x := lettersS.cps.toList[(st + 3 * i) % 26]'(by rw [letters_len]; omega)) (c := 0) hz6 (Nat.le_refl _) (List.getElem_mem _) r
          refine ⟨_, _, rfl, rfl, ?_, ?_⟩
          · rw [str_len (cutS _ _ _), cps_to, List.length_take]
            exact small_sz (by show 1 + _ ≤ _; omega)
          have hne : p ≠ Dl := d5.ne1 hD
          refine ⟨_, by rw [upd_ne (Ne.symm hne)]; exact hl2, by rw [List.length_map]; exact small_lt (by omega), ns ++ [_], by rw [List.length_append, hl]; rfl, (d.upd (d5.free hD)).mono (by omega), by rw [upd_same, List.map_append]; rfl, ?_, ?_⟩
          · intro y hy
            rcases List.mem_append.mp hy with hy | hy
            · exact hnm y hy
            · rw [List.mem_singleton.mp hy]; exact hnew
          · intro j y hy
            by_cases hj : j < ns.length
            · rw [List.getElem?_append_left hj] at hy
              exact hk j y hy
            · rw [List.getElem?_append_right (by omega)] at hy
              have hj2 : j - ns.length = 0 := by
                have := (List.getElem?_eq_some_iff.mp hy).1
                simp at this
                omega
              rw [hj2] at hy
              have : j = i := by omega
              subst this
              cases Option.some.inj hy
              rw [cps_app]
              show some _ = _
              rw [List.getElem?_eq_getElem]
        · rintro H2 ⟨ns, hl, d, hl2, hnm, hk⟩
          refine k Dl ns H2 (d.mono (by omega)) (d5.free hD) hl2 hl ⟨nodup_key hk fun i j hij hj e => ?_, hnm⟩
          have := letters_inj ((st + 3 * i) % 26) (by omega) ((st + 3 * j) % 26) (by omega) e
          have hl' : ns.length = m := hl
          omega
      · refine r_no (eq_false_of_ne_true c0) ?_
        walk_at "r"
        refine ⟨sz_lit rfl, fun Dl hD => ?_⟩
        walk_at "r"
        refine ⟨_, rfl, by omega, by omega, ?_⟩
        refine for_it (walk_range (lo := 0)) (fun i σ H' => ∃ (ns : List Str) (x y : Option V), ns.length = i ∧ Dr p (n + 11 + i) H H' ∧ H' Dl = some (.lst (ns.map V.str)) ∧ (∀ z ∈ ns, IsNm z) ∧ (∀ j z, ns[j]? = some z → z.cps.toList[pl]? = told.cps.toList[(st + 7 * j) % told.cps.toList.length]?) ∧
          σ = [some (.ref p), some (.int (m : Nat)), some (.str lettersS), some (.str signsS), some (.str z), x, some (.int (pl : Nat)), some (.str told), some (.int (st : Nat)), some (.ref Dl), y]) ⟨[], _, _, rfl, d5.new hD, upd_same, by simp, by simp, rfl⟩ (fun _ _ _ _ _ => trivial) ?_ ?_
        · rintro i x σ H2 H3 hi ⟨ns, x0, y0, hl, d, hl2, hnm, hk, rfl⟩ ⟨rfl, rfl⟩
          have hi' : i < m := hi
          walk_at "r"
          refine r_i (.inl ⟨by decide, by decide⟩) ?_
          walk_at "r"
          refine ⟨told, rfl, small_sz (by rw [str_len]; omega), ?_⟩
          refine r_i (by rw [str_len]; omega) ?_
          have e1 : ((st : Int) + 7 * (0 + (i : Int))) % (told.length : Int) = (((st + 7 * i) % told.cps.toList.length : Nat) : Int) := by
            rw [str_len, Int.natCast_emod]
            congr 1
            omega
          rw [e1]
          have hlt2 : (st + 7 * i) % told.cps.toList.length < told.cps.toList.length := Nat.mod_lt _ (by omega)
          refine r_ixS hlt2 (by omega) ?_
          walk_at "r"
          refine r_tyL hl2 ?_
          walk_at "r"
          refine ⟨z, rfl, small_sz (by rw [str_len]; omega), ?_⟩
          walk_at "r"
          have hx : told.cps.toList[(st + 7 * i) % told.cps.toList.length] ∈ lets ∨ (told.cps.toList[(st + 7 * i) % told.cps.toList.length] ∈ digs ∧ pl ≠ 0) := by
            have hm := List.getElem_mem hlt2
            rcases ht with h | ⟨h, h0⟩
            · refine .inl ?_
              have h1 : ∀ y ∈ told.cps.toList, y ∈ lets := by rw [h]; exact fun y hy => hy
              exact h1 _ hm
            · have h1 : ∀ y ∈ told.cps.toList, y ∈ lets ∨ y ∈ digs := by rw [h]; exact fun y hy => signs_mem hy
              exact (h1 _ hm).imp id fun q => ⟨q, h0⟩
          have hnew := stem_in (pl := pl) hz6 (Nat.le_refl _) (by omega) hx
          refine ⟨_, _, rfl, rfl, ?_, ?_⟩
          · rw [str_len (cutS _ _ _), cps_to, List.length_take]
            exact small_sz (by show _ + 1 ≤ _; omega)
          walk_at "r"
          refine ⟨z, rfl, small_sz (by rw [str_len]; omega), ?_⟩
          refine ⟨_, _, rfl, rfl, ?_, ?_⟩
          · rw [str_len (cutS _ (some _) _), str_len, cps_app, cps_to, cps_from, List.length_append, List.length_take, List.length_drop]
            exact small_sz (by show _ + 1 + _ ≤ _; omega)
          walk_at "r"
          refine r_app hl2 (by rw [List.length_map]; exact small_lt (by omega)) ?_
          walk_at "r"
          refine ⟨ns ++ [_], _, _, by rw [List.length_append, hl]; rfl, (d.upd (d5.free hD)).mono (by omega), by rw [upd_same, List.map_append]; rfl, ?_, ?_, rfl⟩
          · intro y hy
            rcases List.mem_append.mp hy with hy | hy
            · exact hnm y hy
            · rw [List.mem_singleton.mp hy]; exact hnew.1
          · intro j y hy
            by_cases hj : j < ns.length
            · rw [List.getElem?_append_left hj] at hy
              exact hk j y hy
            · rw [List.getElem?_append_right (by omega)] at hy
              have hj2 : j - ns.length = 0 := by
                have := (List.getElem?_eq_some_iff.mp hy).1
                simp at this
                omega
              rw [hj2] at hy
              have : j = i := by omega
              subst this
              cases Option.some.inj hy
              rw [hnew.2, List.getElem?_eq_getElem hlt2]
        · rintro σ H2 ⟨ns, x0, y0, hl, d, hl2, hnm, hk, rfl⟩
          walk_at "r"
          refine k Dl ns H2 (d.mono (by omega)) (d5.free hD) hl2 hl ⟨nodup_key hk fun i j hij hj e => ?_, hnm⟩
          have hl' : ns.length = m := hl
          rcases ht with rfl | ⟨rfl, _⟩
          · rw [letters_len] at e
            have := letters_inj ((st + 7 * i) % 26) (by omega) ((st + 7 * j) % 26) (by omega) e
            omega
          · rw [signs_len] at e
            have := signs_inj ((st + 7 * i) % 36) (by omega) ((st + 7 * j) % 36) (by omega) e
            omega
end
end K48
/-! ## KS -/
set_option maxHeartbeats 4000000
namespace K48
open PySem L2
local macro_rules | `(tactic| walk_at "r1") => `(tactic| first
  | with_reducible refine r_seq ?_ | with_reducible refine r_asg ?_ | with_reducible refine r_ret ?_ | with_reducible refine r_drop ?_ | with_reducible refine r_if ?_ | with_reducible refine r_next ?_
  | with_reducible refine r_name ?_ | with_reducible refine r_c ?_ | ((with_reducible show tVar _ _ _ _); refine r_var rfl ?_) | with_reducible refine r_op ?_ | with_reducible refine r_un ?_
  | with_reducible refine r_i0 ?_ | with_reducible refine r_test ?_ | with_reducible refine r_tB ?_ | with_reducible refine r_bl ?_ | with_reducible refine r_and ?_ | with_reducible refine r_or ?_
  | with_reducible refine r_not ?_ | with_reducible refine r_ifE ?_ | with_reducible refine r_cons ?_ | with_reducible refine r_nil ?_ | with_reducible refine r_cb ?_ | with_reducible refine r_call ?_
  | with_reducible refine r_lst ?_ | with_reducible refine r_tup ?_ | with_reducible refine r_sl ?_ | with_reducible refine r_noP ?_ | with_reducible refine r_part ?_ | with_reducible refine r_exI ?_
  | with_reducible refine r_tr ?_ | with_reducible refine r_fa ?_ | with_reducible refine r_for ?_ | with_reducible refine r_iList ?_ | with_reducible refine r_iTup ?_ | with_reducible refine r_iStr ?_
  | with_reducible refine r_iR1 ?_ | with_reducible refine r_iR2 ?_ | with_reducible refine r_lc ?_ | with_reducible refine r_nt ?_ | with_reducible refine r_nf ?_ | with_reducible refine r_orV ?_ | with_reducible refine r_andV ?_ | with_reducible refine r_yesT ?_ | with_reducible refine r_gsub ?_ | with_reducible refine r_gcons ?_ | with_reducible refine r_gnil ?_ | with_reducible refine r_bm ?_ | with_reducible refine r_bm0 ?_
  | with_reducible refine r_fld ?_ | with_reducible refine r_sfld ?_ | with_reducible refine r_meth ?_ | with_reducible refine r_make ?_ | with_reducible refine r_dget ?_ | with_reducible refine r_din ?_ | with_reducible refine r_dnin ?_ | with_reducible refine r_dput ?_
  | with_reducible refine r_dgetN ?_ | with_reducible refine r_dinN ?_ | with_reducible refine r_dninN ?_ | with_reducible refine r_dputN ?_ | ((with_reducible show tAug _ _ _ _ _ _); refine r_aug rfl ?_) | with_reducible refine r_par ?_ | with_reducible refine r_neg ?_ | with_reducible refine r_iEnum ?_ | with_reducible refine r_iZip ?_ | with_reducible refine r_iZipA ?_)
local macro_rules | `(tactic| walk_at "r") => `(tactic| repeat walk_at "r1")

/-! ### two lists, place by place -/
def Seq2 {α β : Type} (R : α → β → Prop) (xs : List α) (ys : List β) : Prop := xs.length = ys.length ∧ ∀ (i : Nat) x y, xs[i]? = some x → ys[i]? = some y → R x y
section
variable {α β : Type} {R S : α → β → Prop} {xs xs' : List α} {ys ys' : List β}
theorem Seq2.nil : Seq2 R ([] : List α) ([] : List β) := ⟨rfl, fun i x y h => by simp at h⟩
theorem Seq2.mono (h : Seq2 R xs ys) (f : ∀ x y, R x y → S x y) : Seq2 S xs ys := ⟨h.1, fun i x y a b => f x y (h.2 i x y a b)⟩
theorem Seq2.cons {x : α} {y : β} (r : R x y) (h : Seq2 R xs ys) : Seq2 R (x :: xs) (y :: ys) := by
  refine ⟨by rw [List.length_cons, List.length_cons, h.1], fun i a b ha hb => ?_⟩
  cases i with
  | zero => cases Option.some.inj ha; cases Option.some.inj hb; exact r
  | succ i => exact h.2 i a b ha hb
theorem Seq2.app (h : Seq2 R xs ys) (g : Seq2 R xs' ys') : Seq2 R (xs ++ xs') (ys ++ ys') := by
  refine ⟨by rw [List.length_append, List.length_append, h.1, g.1], fun i a b ha hb => ?_⟩
  by_cases c : i < xs.length
  · rw [List.getElem?_append_left c] at ha
    rw [List.getElem?_append_left (h.1 ▸ c)] at hb
    exact h.2 i a b ha hb
  · rw [List.getElem?_append_right (by omega)] at ha
    rw [List.getElem?_append_right (by rw [← h.1]; omega), ← h.1] at hb
    exact g.2 _ a b ha hb
theorem Seq2.snoc {x : α} {y : β} (h : Seq2 R xs ys) (r : R x y) : Seq2 R (xs ++ [x]) (ys ++ [y]) := h.app (.cons r .nil)
theorem Seq2.at {i : Nat} {x : α} (h : Seq2 R xs ys) (hx : xs[i]? = some x) : ∃ y, ys[i]? = some y ∧ R x y := by
  have hi := (List.getElem?_eq_some_iff.mp hx).1
  exact ⟨ys[i]'(h.1 ▸ hi), List.getElem?_eq_getElem _, h.2 i x _ hx (List.getElem?_eq_getElem _)⟩
theorem Seq2.at' {i : Nat} {y : β} (h : Seq2 R xs ys) (hy : ys[i]? = some y) : ∃ x, xs[i]? = some x ∧ R x y := by
  have hi := (List.getElem?_eq_some_iff.mp hy).1
  exact ⟨xs[i]'(h.1.symm ▸ hi), List.getElem?_eq_getElem _, h.2 i _ y (List.getElem?_eq_getElem _) hy⟩
theorem Seq2.perm {zs : List α} (p : zs.Perm xs) : ∀ {ys : List β}, Seq2 R xs ys → ∃ ws, ws.Perm ys ∧ Seq2 R zs ws := by
  induction p with
  | nil => intro ys h; exact ⟨ys, .refl _, h⟩
  | @cons x l1 l2 _ ih =>
    intro ys h
    cases ys with
    | nil => cases h.1
    | cons y ys =>
      have h' : Seq2 R l2 ys := ⟨by have := h.1; simp at this; exact this, fun i a b ha hb => h.2 (i + 1) a b ha hb⟩
      obtain ⟨ws, p1, s1⟩ := ih h'
      exact ⟨y :: ws, p1.cons y, .cons (h.2 0 x y rfl rfl) s1⟩
  | swap x y l =>
    intro ys h
    match ys, h with
    | [], h => cases h.1
    | [_], h => cases h.1
    | a :: b :: ys, h =>
      refine ⟨b :: a :: ys, .swap a b ys, .cons (h.2 1 _ _ rfl rfl) (.cons (h.2 0 _ _ rfl rfl) ⟨by have := h.1; simp at this; exact this, fun i u v hu hv => h.2 (i + 2) u v hu hv⟩)⟩
  | trans _ _ ih1 ih2 =>
    intro ys h
    obtain ⟨ws, p2, s2⟩ := ih2 h
    obtain ⟨vs, p1, s1⟩ := ih1 s2
    exact ⟨vs, p1.trans p2, s1⟩
end
/-! ### frames with a ghost -/
section
variable {m : Addr → Prop} {G H G1 H1 G2 H2 : Hp} {p q : Addr} {o : HO} {n k : Nat}
theorem Grow.newH (g : Grow m G H G1 H1) (h : H1 q = none) : Grow m G H G1 (upd H1 q o) := g.heap (same_upd h)
theorem Grow.free1 (g : Grow m G H G1 H1) (h : H1 q = none) : G1 q = none := by
  cases e : G1 q with
  | none => rfl
  | some u => rw [g.gh _ _ e] at h; cases h
theorem Grow.newT (g : Grow m G H G1 H1) (h : H1 q = none) (h0 : H q = none) : Grow m G H (upd G1 q o) (upd H1 q o) :=
  (g.newH h).tell upd_same h0
theorem Grow.newN (g : Grow no G H G1 H1) (h : H1 q = none) : Grow no G H (upd G1 q o) (upd H1 q o) := g.newT h (g.freeN h)
/-- with the pool p -/
structure Dg (p : Addr) (n : Nat) (G H G1 H1 : Hp) : Prop where
  gr : Grow (· = p) G H G1 H1
  pl : Pl H1 p n
  gp : G1 p = none
  st : H p ≠ none
theorem Dg.refl (s : Same G H) (hp : Pl H p n) (h : G p = none) : Dg p n G H G H := ⟨.refl s, hp, h, hp.ne⟩
theorem Dg.mono (d : Dg p n G H G1 H1) (h : n ≤ k) : Dg p k G H G1 H1 := ⟨d.gr, d.pl.mono h, d.gp, d.st⟩
theorem Dg.free (d : Dg p n G H G1 H1) (h : H1 q = none) : H q = none := by
  by_cases hq : q = p
  · subst hq; exact absurd h d.pl.ne
  · exact d.gr.free h hq
theorem Dg.ne (d : Dg p n G H G1 H1) (h : H q = none) : p ≠ q := fun z => d.st (z ▸ h)
theorem Dg.ne1 (d : Dg p n G H G1 H1) (h : H1 q = none) : p ≠ q := fun z => d.pl.ne (z ▸ h)
theorem Dg.dr (d : Dg p n G H G1 H1) (e : Dr p k H1 H2) : Dg p k G H G1 H2 := by
  refine ⟨⟨d.gr.off.trans e.off, d.gr.gg, fun a u h => ?_, d.gr.new⟩, e.pl, d.gp, d.st⟩
  exact e.off a u (fun z => by rw [z, d.gp] at h; cases h) (d.gr.gh a u h)
theorem Dg.newH (d : Dg p n G H G1 H1) (h : H1 q = none) : Dg p n G H G1 (upd H1 q o) := ⟨d.gr.newH h, d.pl.new h, d.gp, d.st⟩
theorem Dg.mut (d : Dg p n G H G1 H1) (h : G1 q = none) (h0 : H q = none) : Dg p n G H G1 (upd H1 q o) := ⟨d.gr.mut h (.inl h0), d.pl.upd (d.ne h0), d.gp, d.st⟩
theorem Dg.tell (d : Dg p n G H G1 H1) (h : H1 q = some o) (h0 : H q = none) : Dg p n G H (upd G1 q o) H1 := ⟨d.gr.tell h h0, d.pl, by rw [upd_ne (d.ne h0)]; exact d.gp, d.st⟩
theorem Dg.newT (d : Dg p n G H G1 H1) (h : H1 q = none) : Dg p n G H (upd G1 q o) (upd H1 q o) := (d.newH h).tell upd_same (d.free h)
theorem Dg.free1 (d : Dg p n G H G1 H1) (h : H1 q = none) : G1 q = none := d.gr.free1 h
theorem Dg.trans (d : Dg p n G H G1 H1) (e : Dg p k G1 H1 G2 H2) : Dg p k G H G2 H2 := ⟨d.gr.trans e.gr (fun q hq h => by rw [hq]; exact d.pl.ne), e.pl, e.gp, d.st⟩
theorem Dg.grow (d : Dg p n G H G1 H1) (e : Grow no G1 H1 G2 H2) : Dg p n G H G2 H2 := ⟨d.gr.trans e.up (fun q hq h => by rw [hq]; exact d.pl.ne), d.pl.same e.same, e.new p d.gp d.pl.ne, d.st⟩
theorem Dg.same (d : Dg p n G H G1 H1) (s : Same H1 H2) : Dg p n G H G1 H2 := ⟨d.gr.heap s, d.pl.same s, d.gp, d.st⟩
theorem Dg.draw (d : Dg p n G H G1 H1) (h : Pl (upd H1 p o) p k) : Dg p k G H G1 (upd H1 p o) := d.dr ((Dr.refl d.pl).put h)
variable {Q : VK} {E : XK}
theorem r_tk {mm : Nat} (d : Dg p n G H G1 H1) (h0 : 0 < mm) (h1 : mm < 1000) (hn : n ≤ 1000000000000) (k : ∀ (r : Nat) (o : HO), r < mm → Dg p (n + 1) G H G1 (upd H1 p o) → Q (.int (r : Nat)) (upd H1 p o)) : spTake [.ref p, .int (mm : Nat)] H1 Q E :=
  ⟨p, mm, n, rfl, h0, h1, d.pl, hn, fun r o hr hp => k r o hr (d.draw hp)⟩
/-- something told in the ghost stands -/
theorem Dg.at (d : Dg p n G H G1 H1) {a : Addr} {u : HO} (h : G1 a = some u) : H1 a = some u := d.gr.gh _ _ h
theorem Grow.at (d : Grow m G H G1 H1) {a : Addr} {u : HO} (h : G1 a = some u) : H1 a = some u := d.gh _ _ h
end
/-! ### data of the law -/
abbrev StrL (G : Hp) (a : Addr) (ns : List Str) : Prop := G a = some (.lst (ns.map V.str))
abbrev StrT (G : Hp) (a : Addr) (ns : List Str) : Prop := G a = some (.tup (ns.map V.str))
def RowV (G : Hp) (v : V) (e : Lane Str) : Prop := ∃ a, v = .ref a ∧ G a = some (.tup [.str e.1, .str e.2.1, .str e.2.2])
theorem RowV.mono {G G' : Hp} (s : Same G G') {v : V} {e : Lane Str} (h : RowV G v e) : RowV G' v e := by
  obtain ⟨a, e1, h⟩ := h
  exact ⟨a, e1, s _ _ h⟩
structure NetD (posts : List Str) (lanes : List (Lane Str)) : Prop where
  p0 : posts ≠ []
  p5 : posts.length ≤ 5
  pn : Names posts
  l8 : lanes.length ≤ 8
  ln : Names (lanes.map (·.1))
  ends : ∀ e ∈ lanes, e.2.1 ∈ posts ∧ e.2.2 ∈ posts
structure PartsAt (G : Hp) (p : Addr) (posts : List Str) (lanes : List (Lane Str)) : Prop where
  ex : ∃ a b vs, G p = some (.lst [.ref a, .ref b]) ∧ StrL G a posts ∧ G b = some (.lst vs) ∧ Seq2 (RowV G) vs lanes
theorem PartsAt.mono {G G' : Hp} (s : Same G G') {p : Addr} {posts : List Str} {lanes : List (Lane Str)} (h : PartsAt G p posts lanes) : PartsAt G' p posts lanes := by
  obtain ⟨a, b, vs, h1, h2, h3, h4⟩ := h.ex
  exact ⟨a, b, vs, s _ _ h1, s _ _ h2, s _ _ h3, h4.mono fun _ _ => RowV.mono s⟩
def spMixed : Sp := fun vs H Q _ => ∃ (p a : Addr) (xs : List V) (n : Nat), vs = [V.ref p, V.ref a] ∧ H a = some (.lst xs) ∧ a ≠ p ∧ xs.length ≤ 100 ∧ Pl H p n ∧ n ≤ 900000000000 ∧
  ∀ (q : Addr) (ys : List V) (H' : Hp), Dr p (n + 100) H H' → H q = none → H' q = some (.lst ys) → ys.Perm xs → Q (.ref q) H'
def spLineNet : Sp := fun vs H Q _ => ∃ (p : Addr) (G : Hp) (n : Nat), vs = [V.ref p, V.int 5, V.int 8] ∧ Same G H ∧ G p = none ∧ Pl H p n ∧ n ≤ 500000000000 ∧
  ∀ (q : Addr) (posts : List Str) (lanes : List (Lane Str)) (G' H' : Hp), Dg p (n + 1000) G H G' H' → PartsAt G' q posts lanes → NetD posts lanes → Q (.ref q) H'
def spCourseD (K : PySem.W.Frag) : Sp := fun vs H Q _ => ∃ (p q : Addr) (G : Hp) (posts : List Str) (lanes : List (Lane Str)) (n : Nat), vs = [V.ref p, V.ref q] ∧ Same G H ∧ G p = none ∧ Pl H p n ∧ n ≤ 500000000000 ∧ PartsAt G q posts lanes ∧ NetD posts lanes ∧
  ∀ (t e : Addr) (start : Str) (ends : List Str) (G' H' : Hp), Dg p (n + 1000) G H G' H' → G' t = some (.tup [.str start, .ref e]) → StrL G' e ends → start ∈ posts → (∀ z ∈ ends, z ∈ posts) → ends.length ≤ 3 → Q (.ref t) H'
end K48
/-! ## KD4 -/
set_option maxHeartbeats 4000000
namespace K48
open PySem L2
local macro_rules | `(tactic| walk_at "r1") => `(tactic| first
  | with_reducible refine r_seq ?_ | with_reducible refine r_asg ?_ | with_reducible refine r_ret ?_ | with_reducible refine r_drop ?_ | with_reducible refine r_if ?_ | with_reducible refine r_next ?_
  | with_reducible refine r_name ?_ | with_reducible refine r_c ?_ | ((with_reducible show tVar _ _ _ _); refine r_var rfl ?_) | with_reducible refine r_op ?_ | with_reducible refine r_un ?_
  | with_reducible refine r_i0 ?_ | with_reducible refine r_test ?_ | with_reducible refine r_tB ?_ | with_reducible refine r_bl ?_ | with_reducible refine r_and ?_ | with_reducible refine r_or ?_
  | with_reducible refine r_not ?_ | with_reducible refine r_ifE ?_ | with_reducible refine r_cons ?_ | with_reducible refine r_nil ?_ | with_reducible refine r_cb ?_ | with_reducible refine r_call ?_
  | with_reducible refine r_lst ?_ | with_reducible refine r_tup ?_ | with_reducible refine r_sl ?_ | with_reducible refine r_noP ?_ | with_reducible refine r_part ?_ | with_reducible refine r_exI ?_
  | with_reducible refine r_tr ?_ | with_reducible refine r_fa ?_ | with_reducible refine r_for ?_ | with_reducible refine r_iList ?_ | with_reducible refine r_iTup ?_ | with_reducible refine r_iStr ?_
  | with_reducible refine r_iR1 ?_ | with_reducible refine r_iR2 ?_ | with_reducible refine r_lc ?_ | with_reducible refine r_nt ?_ | with_reducible refine r_nf ?_ | with_reducible refine r_orV ?_ | with_reducible refine r_andV ?_ | with_reducible refine r_yesT ?_ | with_reducible refine r_gsub ?_ | with_reducible refine r_gcons ?_ | with_reducible refine r_gnil ?_ | with_reducible refine r_bm ?_ | with_reducible refine r_bm0 ?_
  | with_reducible refine r_fld ?_ | with_reducible refine r_sfld ?_ | with_reducible refine r_meth ?_ | with_reducible refine r_make ?_ | with_reducible refine r_dget ?_ | with_reducible refine r_din ?_ | with_reducible refine r_dnin ?_ | with_reducible refine r_dput ?_
  | with_reducible refine r_dgetN ?_ | with_reducible refine r_dinN ?_ | with_reducible refine r_dninN ?_ | with_reducible refine r_dputN ?_ | ((with_reducible show tAug _ _ _ _ _ _); refine r_aug rfl ?_) | with_reducible refine r_par ?_ | with_reducible refine r_neg ?_ | with_reducible refine r_iEnum ?_ | with_reducible refine r_iZip ?_ | with_reducible refine r_iZipA ?_)
local macro_rules | `(tactic| walk_at "r") => `(tactic| repeat walk_at "r1")

section
variable {P : Program} {w : World} {K : PySem.W.Frag} {mg : Str → Option Value} {base : Heap}
abbrev st__law_mixed : Stmt := topS 76
abbrev N__law_mixed : List Str := ["_law_pool_here", "_law_things", "_law_left", "_law_mixed_here", "_law_k", "_law_at"]
theorem sc__law_mixed : FnScope N__law_mixed ["_law_pool_here", "_law_things"] (defScope st__law_mixed) := ⟨rfl, rfl, rfl, by decide +kernel, rfl, by decide +kernel, by decide +kernel⟩
theorem ok__law_mixed (T : Top K mg) (F : Dn K mg "_law_mixed" st__law_mixed) (c__law_take : Cal P w K mg base 1 "_law_take" spTake) : Cal P w K mg base 2 "_law_mixed" spMixed := by
  refine F.cal sc__law_mixed (fun vs H Q E h => ?_) (fun _ _ _ _ _ _ us hl => match us, hl with | [_, _], _ => rfl) (fun f cdv A outer s H vs Q E hr h => ?_)
  · obtain ⟨p, a, xs, n, rfl, _⟩ := h
    rfl
  · obtain ⟨p, a, xs, n, rfl, ha, hap, hx, hp, hn, k⟩ := h
    refine ⟨_, (pss_cons (ps_set (i := 2) sc__law_mixed.nd rfl (Or.inl rfl) (pe_callTy call_list_of rfl T.b_list (by decide +kernel) (pa_cons (pv 1) pa_nil)))
  (pss_cons (ps_set (i := 3) sc__law_mixed.nd rfl (Or.inl rfl) (pe_lst pa_nil))
  (pss_cons (ps_for PassesOwn.never rfl (pi_range1 rfl T.b_range (pa_cons (pe_callB call_len_seq rfl T.b_len (by decide +kernel) (pa_cons (pv 1) pa_nil)) pa_nil)) (pg_name (i := 4) sc__law_mixed.nd rfl (Or.inl rfl)) (pss_cons (ps_set (i := 5) sc__law_mixed.nd rfl (Or.inl rfl) (C8.pe_c c__law_take hr (by omega) rfl (pa_cons (pv 0) (pa_cons (pe_callB call_len_seq rfl T.b_len (by decide +kernel) (pa_cons (pv 2) pa_nil)) pa_nil))))
  (pss_cons (ps_expr (pe_bm PySem.F.plainAttrs_list PySem.F.slot_list_append PySem.F.type_list_append mt_append (pv 3) (pa_cons (pe_ix ix_list (pv 2) (pv 5) (fun _ _ => rfl)) pa_nil)))
  (pss_one (ps_set (i := 2) sc__law_mixed.nd rfl (Or.inl rfl) (pe_op op_cat (pe_slice sl_list (pv 2) po_none (po_some (pv 5))) (pe_slice sl_list (pv 2) (po_some (pe_op op_add (pv 5) pe_int)) po_none)))))))
  (pss_one (ps_ret (pv 3)))))), ?_⟩
    walk_at "r"
    refine ⟨a, xs, rfl, .inl (.inl (.inl ha)), fun l hl => ?_⟩
    have d0 : Dr p n H (upd H l (.lst xs)) := (Dr.refl hp).new hl
    walk_at "r"
    refine ⟨sz_lit rfl, fun ml hml => ?_⟩
    have hml0 : H ml = none := d0.free hml
    have hlm : l ≠ ml := fun z => by rw [z, upd_same] at hml; cases hml
    walk_at "r"
    refine ⟨a, xs, rfl, .inl (.inl (.inl ?_)), ?_⟩
    · rw [upd_ne (ne_of_none ha hml0), upd_ne (ne_of_none ha hl)]; exact ha
    refine ⟨_, rfl, by omega, by omega, ?_⟩
    refine for_it (walk_range (lo := 0)) (fun i σ H' => ∃ (l : Addr) (ls ms : List V) (x y : Option V), Dr p (n + i) H H' ∧ H l = none ∧ l ≠ ml ∧ H' l = some (.lst ls) ∧ H' ml = some (.lst ms) ∧ ls.length + i = xs.length ∧ ms.length = i ∧ (ms ++ ls).Perm xs ∧
      σ = [some (.ref p), some (.ref a), some (.ref l), some (.ref ml), x, y]) ⟨l, xs, [], _, _, d0.new hml, hl, hlm, by rw [upd_ne hlm, upd_same], upd_same, rfl, rfl, .refl _, rfl⟩ (fun _ _ _ _ _ => trivial) ?_ ?_
    · rintro i x σ H1' H1 hi ⟨l, ls, ms, x0, y0, d, hl0, hlm, hls, hms, hc, hcm, hperm, rfl⟩ ⟨rfl, rfl⟩
      have hi' : i < xs.length := by simpa using hi
      walk_at "r"
      refine ⟨l, ls, rfl, .inl (.inl (.inl hls)), ?_⟩
      walk_at "r"
      refine r_take (m := ls.length) d (by omega) (by omega) (by omega) fun r o hr d => ?_
      have hpl : p ≠ l := d.ne hl0
      have hpm : p ≠ ml := d.ne hml0
      have hls2 : upd H1 p o l = some (.lst ls) := by rw [upd_ne (Ne.symm hpl)]; exact hls
      have hms2 : upd H1 p o ml = some (.lst ms) := by rw [upd_ne (Ne.symm hpm)]; exact hms
      walk_at "r"
      refine r_tyL hms2 ?_
      walk_at "r"
      refine r_ixL hls2 (List.getElem?_eq_getElem hr) ?_
      walk_at "r"
      refine r_app hms2 (small_lt (by omega)) ?_
      have d := d.upd (o := .lst (ms ++ [ls[r]])) hml0
      have hls3 : upd (upd H1 p o) ml (.lst (ms ++ [ls[r]])) l = some (.lst ls) := by rw [upd_ne hlm]; exact hls2
      have hms3 : upd (upd H1 p o) ml (.lst (ms ++ [ls[r]])) ml = some (.lst (ms ++ [ls[r]])) := upd_same
      revert d hls3 hms3
      generalize upd (upd H1 p o) ml (.lst (ms ++ [ls[r]])) = H2
      intro d hls3 hms3
      have d00 := d
      walk_at "r"
      refine r_slL hls3 fun q1 hq1 => ?_
      have d := d.new (o := .lst (cutV ls none (some (r : Int)))) hq1
      walk_at "r"
      refine r_slL (by rw [upd_ne (ne_of_none hls3 hq1)]; exact hls3) fun q2 hq2 => ?_
      have h12 : q1 ≠ q2 := fun z => by rw [z, upd_same] at hq2; cases hq2
      have hq2' : H2 q2 = none := by rw [upd_ne (Ne.symm h12)] at hq2; exact hq2
      have e1 : cutV ls none (some (r : Int)) = ls.take r := cut_to ls r
      have e2 : cutV ls (some ((r : Int) + 1)) none = ls.drop (r + 1) := cut_from ls (r + 1)
      rw [e1] at d hq2 ⊢
      rw [e2]
      refine r_cat (xs := ls.take r) (ys := ls.drop (r + 1)) (by rw [upd_ne h12, upd_same]) upd_same (by rw [List.length_take, List.length_drop]; exact small_sz (by omega)) fun q3 hq3 => ?_
      have h13 : q1 ≠ q3 := fun z => by rw [← z, upd_ne h12, upd_same] at hq3; cases hq3
      have h23 : q2 ≠ q3 := fun z => by rw [← z, upd_same] at hq3; cases hq3
      have hq3' : H2 q3 = none := by rw [upd_ne (Ne.symm h23), upd_ne (Ne.symm h13)] at hq3; exact hq3
      have d := (d.new (o := .lst (ls.drop (r + 1))) hq2).new (o := .lst (ls.take r ++ ls.drop (r + 1))) hq3
      walk_at "r"
      have hm1 : ml ≠ q1 := ne_of_none hms3 hq1
      have hm2 : ml ≠ q2 := ne_of_none hms3 hq2'
      have hm3 : ml ≠ q3 := ne_of_none hms3 hq3'
      refine ⟨q3, ls.take r ++ ls.drop (r + 1), ms ++ [ls[r]], _, _, d.mono (by omega), d00.free hq3', Ne.symm hm3, upd_same, by rw [upd_ne hm3, upd_ne hm2, upd_ne hm1]; exact hms3, ?_, by rw [List.length_append, hcm]; rfl, ?_, rfl⟩
      · rw [List.length_append, List.length_take, List.length_drop]; omega
      · have e : ls = ls.take r ++ ls[r] :: ls.drop (r + 1) := by rw [← List.drop_eq_getElem_cons hr, List.take_append_drop]
        refine List.Perm.trans ?_ hperm
        rw [List.append_assoc]
        refine List.Perm.append_left ms ?_
        have : (ls.take r ++ ls[r] :: ls.drop (r + 1)).Perm ls := by rw [← e]
        exact ((List.perm_middle (l₁ := ls.take r)).symm).trans this
    · rintro σ H1 ⟨l, ls, ms, x0, y0, d, hl0, hlm, hls, hms, hc, hcm, hperm, rfl⟩
      walk_at "r"
      have hc' : ls.length + xs.length = xs.length := hc
      have : ls = [] := List.length_eq_zero_iff.mp (by omega)
      rw [this, List.append_nil] at hperm
      refine k ml ms H1 (d.mono ?_) hml0 hms hperm
      show n + xs.length ≤ n + 100
      omega
abbrev st__law_line_net : Stmt := topS 77
abbrev N__law_line_net : List Str := ["_law_pool_here", "_law_most", "_law_lanes_here", "_law_posts", "_law_told_here", "_law_name", "_law_found", "_law_k", "_law_first", "_law_second"]
theorem sc__law_line_net : FnScope N__law_line_net ["_law_pool_here", "_law_most", "_law_lanes_here"] (defScope st__law_line_net) := ⟨rfl, rfl, rfl, by decide +kernel, rfl, by decide +kernel, by decide +kernel⟩
theorem take_snoc {α : Type} {l : List α} {i : Nat} {x : α} (h : l[i]? = some x) : l.take (i + 1) = l.take i ++ [x] := by
  rw [List.take_succ, h]; rfl
theorem ok__law_line_net (T : Top K mg) (F : Dn K mg "_law_line_net" st__law_line_net) (c__law_take : Cal P w K mg base 1 "_law_take" spTake) (c__law_many : Cal P w K mg base 2 "_law_many" spMany)
    (c__law_mixed : Cal P w K mg base 2 "_law_mixed" spMixed) : Cal P w K mg base 3 "_law_line_net" spLineNet := by
  refine F.cal sc__law_line_net (fun vs H Q E h => ?_) (fun _ _ _ _ _ _ us hl => match us, hl with | [_, _, _], _ => rfl) (fun f cdv A outer s H vs Q E hr h => ?_)
  · obtain ⟨p, G, n, rfl, _⟩ := h
    rfl
  · obtain ⟨p, G, n, rfl, sg, gp, hp, hn, k⟩ := h
    refine ⟨_, (pss_cons (ps_set (i := 3) sc__law_line_net.nd rfl (Or.inr rfl) (pe_slice sl_list (C8.pe_c c__law_many hr (by omega) rfl (pa_cons (pv 0) (pa_cons pe_int pa_nil))) po_none (po_some (pe_op op_add pe_int (C8.pe_c c__law_take hr (by omega) rfl (pa_cons (pv 0) (pa_cons (pv 1) pa_nil)))))))
  (pss_cons (ps_set (i := 4) sc__law_line_net.nd rfl (Or.inl rfl) (C8.pe_c c__law_many hr (by omega) rfl (pa_cons (pv 0) (pa_cons (pv 2) pa_nil))))
  (pss_cons (ps_if (pt_cmpR op_eq (C8.pe_c c__law_take hr (by omega) rfl (pa_cons (pv 0) (pa_cons pe_int pa_nil))) pe_int (nomark _)) (pss_one (ps_set (i := 4) sc__law_line_net.nd rfl (Or.inl rfl) (pe_slice sl_list (pe_op op_cat (pv 3) (pe_lc (own := [("_law_name", 5)]) (g := (gName 5)) rfl sc__law_line_net.nd (pi_list (pv 4)) (blkOk_by (N := N__law_line_net) (sc := defScope st__law_line_net) (by decide +kernel)) (fun _ _ _ _ _ => (pg_name (i := 5) sc__law_line_net.nd rfl (Or.inl rfl))) (fun _ _ _ _ _ => (pts_one (pt_cmpR (op_notIn_seq : OpR _ _ (rIn K true)) (pv 5) (pv 3) (by rfl)))) (fun _ _ _ _ _ => (pv 5)))) po_none (po_some (pv 2))))) pss_nil)
  (pss_cons (ps_set (i := 6) sc__law_line_net.nd rfl (Or.inl rfl) (pe_lst pa_nil))
  (pss_cons (ps_for PassesOwn.never rfl (pi_range1 rfl T.b_range (pa_cons (pe_op op_sub (pe_callB call_len_seq rfl T.b_len (by decide +kernel) (pa_cons (pv 3) pa_nil)) pe_int) pa_nil)) (pg_name (i := 7) sc__law_line_net.nd rfl (Or.inl rfl)) (pss_one (ps_if (pt_cmpR op_gt (C8.pe_c c__law_take hr (by omega) rfl (pa_cons (pv 0) (pa_cons pe_int pa_nil))) pe_int (nomark _)) (pss_one (ps_expr (pe_bm PySem.F.plainAttrs_list PySem.F.slot_list_append PySem.F.type_list_append mt_append (pv 6) (pa_cons (pe_tup (pa_cons (pe_ix ix_list (pv 4) (pv 7) (fun _ _ => rfl)) (pa_cons (pe_ix ix_list (pv 3) (pv 7) (fun _ _ => rfl)) (pa_cons (pe_ix ix_list (pv 3) (pe_op op_add (pv 7) pe_int) (fun _ _ => rfl)) pa_nil)))) pa_nil)))) pss_nil)))
  (pss_cons (ps_for PassesOwn.never rfl (pi_list (pe_slice sl_list (pv 4) (po_some (pe_op op_sub (pe_callB call_len_seq rfl T.b_len (by decide +kernel) (pa_cons (pv 3) pa_nil)) pe_int)) po_none)) (pg_name (i := 5) sc__law_line_net.nd rfl (Or.inl rfl)) (pss_one (ps_if (pt_cmpR op_gt (C8.pe_c c__law_take hr (by omega) rfl (pa_cons (pv 0) (pa_cons pe_int pa_nil))) pe_int (nomark _)) (pss_cons (ps_set (i := 8) sc__law_line_net.nd rfl (Or.inl rfl) (C8.pe_c c__law_take hr (by omega) rfl (pa_cons (pv 0) (pa_cons (pe_callB call_len_seq rfl T.b_len (by decide +kernel) (pa_cons (pv 3) pa_nil)) pa_nil))))
  (pss_cons (ps_set (i := 9) sc__law_line_net.nd rfl (Or.inl rfl) (C8.pe_c c__law_take hr (by omega) rfl (pa_cons (pv 0) (pa_cons (pe_callB call_len_seq rfl T.b_len (by decide +kernel) (pa_cons (pv 3) pa_nil)) pa_nil))))
  (pss_cons (ps_if (PW.pt (pw_and (pt_cmpR op_gt (pv 8) (pv 9) (nomark _)) (pw_and1 (pt_cmpR op_gt (C8.pe_c c__law_take hr (by omega) rfl (pa_cons (pv 0) (pa_cons pe_int pa_nil))) pe_int (nomark _))))) (pss_one (ps_par (i := 8) (j := 9) rfl sc__law_line_net.nd rfl rfl (by decide) rfl rfl (pa_cons (pv 9) (pa_cons (pv 8) pa_nil)) rfl)) pss_nil)
  (pss_one (ps_expr (pe_bm PySem.F.plainAttrs_list PySem.F.slot_list_append PySem.F.type_list_append mt_append (pv 6) (pa_cons (pe_tup (pa_cons (pv 5) (pa_cons (pe_ix ix_list (pv 3) (pv 8) (fun _ _ => rfl)) (pa_cons (pe_ix ix_list (pv 3) (pv 9) (fun _ _ => rfl)) pa_nil)))) pa_nil))))))) pss_nil)))
  (pss_one (ps_ret (pe_lst (pa_cons (pv 3) (pa_cons (C8.pe_c c__law_mixed hr (by omega) rfl (pa_cons (pv 0) (pa_cons (pv 6) pa_nil))) pa_nil))))))))))), ?_⟩
    walk_at "r"
    refine ⟨p, 10, n, rfl, by decide, hp, by omega, fun q ns H1 dr hq0 hq hl hns => ?_⟩
    have d := (Dg.refl sg hp gp).dr dr
    walk_at "r"
    refine r_tk (mm := 5) d (by decide) (by decide) (by omega) fun r o hr d => ?_
    walk_at "r"
    have hqp : p ≠ q := d.ne hq0
    refine r_slL (by rw [upd_ne (Ne.symm hqp)]; exact hq) fun a ha => ?_
    have e1 : cutV (ns.map V.str) none (some (1 + (r : Int))) = (ns.take (r + 1)).map V.str := by
      rw [show (1 + (r : Int)) = ((r + 1 : Nat) : Int) by omega, cut_to, List.map_take]
    rw [e1]
    have d := d.newT (o := .lst ((ns.take (r + 1)).map V.str)) ha
    have hpn : Names (ns.take (r + 1)) := ⟨hns.nd.sublist (List.take_sublist _ _), fun z hz => hns.nm z (List.mem_of_mem_take hz)⟩
    have hpl : (ns.take (r + 1)).length = r + 1 := by rw [List.length_take]; omega
    have hP : StrL (upd G a (.lst ((ns.take (r + 1)).map V.str))) a (ns.take (r + 1)) := upd_same
    revert d hpn hpl hP
    generalize ns.take (r + 1) = posts
    generalize upd G a (.lst (posts.map V.str)) = G1
    generalize upd (upd H1 p o) a (.lst (posts.map V.str)) = H2
    intro d hpn hpl hP
    refine r_name ?_
    refine r_seq ?_
    walk_at "r"
    refine ⟨p, 8, _, rfl, by decide, d.pl, by omega, fun q2 ns2 H3 dr2 hq20 hq2 hl2 hns2 => ?_⟩
    have sG2 := same_upd (o := .lst (ns2.map V.str)) (d.free1 hq20)
    have d := (d.dr dr2).tell hq2 (d.free hq20)
    have hP := sG2 _ _ hP
    have hT2 : StrL (upd G1 q2 (.lst (ns2.map V.str))) q2 ns2 := upd_same
    revert d hP hT2
    generalize upd G1 q2 (.lst (ns2.map V.str)) = G2
    intro d hP hT2
    refine r_name ?_
    with_reducible show tSeq _ _ _ _ _
    refine r_seqC (fun σ H' => ∃ (G' : Hp) (b : Addr) (told : List Str) (x : Option V), Dg p (n + 300) G H G' H' ∧ StrL G' a posts ∧ StrL G' b told ∧ Names told ∧ told.length ≤ 8 ∧ posts.length - 1 ≤ told.length ∧
      σ = [some (.ref p), some (.int 5), some (.int 8), some (.ref a), some (.ref b), x, none, none, none, none]) ?_ ?_
    · rintro σ H' ⟨G', b, told, x, d, hP, hT, hns, hl8, hlp, rfl⟩
      walk_at "r"
      refine ⟨sz_lit rfl, fun Lf hLf => ?_⟩
      have d0 := d.newH (o := .lst []) hLf
      have hL0 := d.free hLf
      have hLG := d.free1 hLf
      walk_at "r"
      refine ⟨a, _, rfl, .inl (.inl (.inl (d0.at hP))), ?_⟩
      walk_at "r"
      refine ⟨_, rfl, by rw [List.length_map]; omega, by rw [List.length_map]; omega, ?_⟩
      have eN : ((((posts.map V.str).length : Nat) : Int) - 1).toNat = r := by rw [List.length_map]; omega
      rw [eN]
      refine for_it (walk_rng0) (fun i σ H' => ∃ (G' : Hp) (vs : List V) (fs : List (Lane Str)) (y : Option V), Dg p (n + 300 + i) G H G' H' ∧ StrL G' a posts ∧ StrL G' b told ∧ G' Lf = none ∧ H' Lf = some (.lst vs) ∧ Seq2 (RowV G') vs fs ∧
        (fs.map (·.1)).Sublist (told.take i) ∧ (∀ e ∈ fs, e.2.1 ∈ posts ∧ e.2.2 ∈ posts) ∧
        σ = [some (.ref p), some (.int 5), some (.int 8), some (.ref a), some (.ref b), x, some (.ref Lf), y, none, none]) ⟨G', [], [], _, d0, hP, hT, hLG, upd_same, .nil, List.Sublist.refl _, by simp, rfl⟩ (fun _ _ _ _ _ => trivial) ?_ ?_
      · rintro i x' σ H4' H4 hi ⟨G', vs, fs, y, d, hP, hT, hLG, hLf, hrow, hsub, hends, rfl⟩ ⟨rfl, rfl⟩
        have hi' : i < r := hi
        walk_at "r"
        refine r_tk (mm := 6) d (by decide) (by decide) (by omega) fun r2 o hr2 d => ?_
        have hpL : p ≠ Lf := d.ne hL0
        have hLf2 : upd H4 p o Lf = some (.lst vs) := by rw [upd_ne (Ne.symm hpL)]; exact hLf
        walk_at "r"
        by_cases c : (0 : Int) < r2
        · refine r_yes (decide_eq_true c) ?_
          walk_at "r"
          refine r_tyL hLf2 ?_
          walk_at "r"
          have ti : told[i]? = some (told[i]'(by omega)) := List.getElem?_eq_getElem _
          have pi : posts[i]? = some (posts[i]'(by omega)) := List.getElem?_eq_getElem _
          have pj : posts[i + 1]? = some (posts[i + 1]'(by omega)) := List.getElem?_eq_getElem _
          refine r_ixL (d.at hT) (by rw [List.getElem?_map, ti]; rfl) ?_
          walk_at "r"
          refine r_ixL (d.at hP) (by rw [List.getElem?_map, pi]; rfl) ?_
          walk_at "r"
          refine r_ixL (j := i + 1) (d.at hP) (by rw [List.getElem?_map, pj]; rfl) ?_
          walk_at "r"
          refine ⟨sz_lit rfl, fun q3 hq3 => ?_⟩
          walk_at "r"
          have hne := ne_of_none hLf2 hq3
          have hlen : vs.length ≤ 8 := by
            have h1 := hsub.length_le
            rw [List.length_map, List.length_take] at h1
            rw [hrow.1]; omega
          refine r_app (by rw [upd_ne hne]; exact hLf2) (small_lt (by omega)) ?_
          have sG := same_upd (o := .tup [.str (told[i]'(by omega)), .str (posts[i]'(by omega)), .str (posts[i + 1]'(by omega))]) (d.free1 hq3)
          have d := (d.newT (o := .tup [.str (told[i]'(by omega)), .str (posts[i]'(by omega)), .str (posts[i + 1]'(by omega))]) hq3)
          have hLG' : upd G' q3 (.tup [.str (told[i]'(by omega)), .str (posts[i]'(by omega)), .str (posts[i + 1]'(by omega))]) Lf = none := by rw [upd_ne hne]; exact hLG
          walk_at "r"
          refine ⟨_, vs ++ [.ref q3], fs ++ [(told[i]'(by omega), posts[i]'(by omega), posts[i + 1]'(by omega))], _, (d.mut hLG' hL0).mono (by omega), sG _ _ hP, sG _ _ hT, hLG', upd_same, (hrow.mono fun _ _ => RowV.mono sG).snoc ⟨q3, rfl, upd_same⟩, ?_, ?_, rfl⟩
          · rw [List.map_append, take_snoc ti]
            exact hsub.append (List.Sublist.refl _)
          · intro e he
            rcases List.mem_append.mp he with he | he
            · exact hends e he
            · rw [List.mem_singleton.mp he]
              exact ⟨List.getElem_mem _, List.getElem_mem _⟩
        · refine r_no (decide_eq_false c) ?_
          walk_at "r"
          exact ⟨G', vs, fs, _, d, hP, hT, hLG, hLf2, hrow, hsub.trans (List.take_sublist_take_left (by omega)), hends, rfl⟩
      · rintro σ H4 ⟨G', vs, fs, y, d, hP, hT, hLG, hLf, hrow, hsub, hends, rfl⟩
        walk_at "r"
        refine ⟨a, _, rfl, .inl (.inl (.inl (d.at hP))), ?_⟩
        walk_at "r"
        refine r_slL (d.at hT) fun q4 hq4 => ?_
        have eN2 : ((((posts.map V.str).length : Nat) : Int) - 1) = ((r : Nat) : Int) := by rw [List.length_map]; omega
        have e4 : cutV (told.map V.str) (some ((((posts.map V.str).length : Nat) : Int) - 1)) none = (told.drop r).map V.str := by rw [eN2, cut_from, List.map_drop]
        rw [e4]
        have sG := same_upd (o := .lst ((told.drop r).map V.str)) (d.free1 hq4)
        have hne4 := ne_of_none hLf hq4
        have d := d.newT (o := .lst ((told.drop r).map V.str)) hq4
        refine ⟨_, rfl, ⟨_, .inl (.inl upd_same)⟩, ?_⟩
        refine for_it (walk_list (xs := (told.drop r).map V.str)) (fun i σ H' => ∃ (G' : Hp) (vs : List V) (fs : List (Lane Str)) (x1 x2 x3 x4 : Option V), Dg p (n + 310 + 4 * i) G H G' H' ∧ StrL G' a posts ∧ StrL G' q4 (told.drop r) ∧ G' Lf = none ∧ H' Lf = some (.lst vs) ∧ Seq2 (RowV G') vs fs ∧
          (fs.map (·.1)).Sublist (told.take (r + i)) ∧ (∀ e ∈ fs, e.2.1 ∈ posts ∧ e.2.2 ∈ posts) ∧
          σ = [some (.ref p), some (.int 5), some (.int 8), some (.ref a), some (.ref b), x1, some (.ref Lf), x2, x3, x4])
          ⟨_, vs, fs, _, _, _, _, d.mono (by show n + 300 + r ≤ _; omega), sG _ _ hP, upd_same, by rw [upd_ne hne4]; exact hLG, by rw [upd_ne hne4]; exact hLf, hrow.mono fun _ _ => RowV.mono sG, hsub, hends, rfl⟩ (fun i σ H' _ ⟨G', vs, fs, x1, x2, x3, x4, d, h1, h2, _⟩ => .inl (.inl (d.at h2))) ?_ ?_
        · rintro i x' σ H5' H5 hi ⟨G', vs, fs, x1, x2, x3, x4, d, hP, hT4, hLG, hLf, hrow, hsub, hends, rfl⟩ ⟨rfl, hx⟩
          rw [List.length_map, List.length_drop] at hi
          have ti : told[r + i]? = some (told[r + i]'(by omega)) := List.getElem?_eq_getElem _
          have ex : x' = .str (told[r + i]'(by omega)) := by
            rw [List.getElem?_map, List.getElem?_drop, ti] at hx
            exact (Option.some.inj hx).symm
          subst ex
          have hpL : p ≠ Lf := d.ne hL0
          walk_at "r"
          refine r_tk (mm := 5) d (by decide) (by decide) (by omega) fun r2 o hr2 d => ?_
          have hLf : upd H5 p o Lf = some (.lst vs) := by rw [upd_ne (Ne.symm hpL)]; exact hLf
          walk_at "r"
          by_cases c : (0 : Int) < r2
          · refine r_yes (decide_eq_true c) ?_
            walk_at "r"
            refine ⟨a, _, rfl, .inl (.inl (.inl (d.at hP))), ?_⟩
            walk_at "r"
            rw [List.length_map]
            refine r_tk (mm := posts.length) d (by omega) (by omega) (by omega) fun r3 o3 hr3 d => ?_
            have hLf : upd (upd H5 p o) p o3 Lf = some (.lst vs) := by rw [upd_ne (Ne.symm hpL)]; exact hLf
            walk_at "r"
            refine ⟨a, _, rfl, .inl (.inl (.inl (d.at hP))), ?_⟩
            walk_at "r"
            rw [List.length_map]
            refine r_tk (mm := posts.length) d (by omega) (by omega) (by omega) fun r4 o4 hr4 d => ?_
            have hLf : upd (upd (upd H5 p o) p o3) p o4 Lf = some (.lst vs) := by rw [upd_ne (Ne.symm hpL)]; exact hLf
            revert d hLf
            generalize upd (upd (upd H5 p o) p o3) p o4 = H6
            intro d hLf
            refine r_name ?_
            with_reducible show tSeq _ _ _ _ _
            refine r_seqC (fun σ H' => ∃ (j1 j2 : Nat), Dg p (n + 310 + 4 * i + 1 + 1 + 1 + 1) G H G' H' ∧ H' Lf = some (.lst vs) ∧ j1 < posts.length ∧ j2 < posts.length ∧
              σ = [some (.ref p), some (.int 5), some (.int 8), some (.ref a), some (.ref b), some (.str (told[r + i]'(by omega))), some (.ref Lf), x2, some (.int (j1 : Nat)), some (.int (j2 : Nat))]) ?_ ?_
            · rintro σ H7 ⟨j1, j2, d, hLf, hj1, hj2, rfl⟩
              have p1 : posts[j1]? = some posts[j1] := List.getElem?_eq_getElem _
              have p2 : posts[j2]? = some posts[j2] := List.getElem?_eq_getElem _
              walk_at "r"
              refine r_tyL hLf ?_
              walk_at "r"
              refine r_ixL (d.at hP) (by rw [List.getElem?_map, p1]; rfl) ?_
              walk_at "r"
              refine r_ixL (d.at hP) (by rw [List.getElem?_map, p2]; rfl) ?_
              walk_at "r"
              refine ⟨sz_lit rfl, fun q3 hq3 => ?_⟩
              walk_at "r"
              have hne := ne_of_none hLf hq3
              have hlen : vs.length ≤ 8 := by
                have h1 := hsub.length_le
                rw [List.length_map, List.length_take] at h1
                rw [hrow.1]; omega
              refine r_app (by rw [upd_ne hne]; exact hLf) (small_lt (by omega)) ?_
              have sG := same_upd (o := .tup [.str (told[r + i]'(by omega)), .str posts[j1], .str posts[j2]]) (d.free1 hq3)
              have d := (d.newT (o := .tup [.str (told[r + i]'(by omega)), .str posts[j1], .str posts[j2]]) hq3)
              have hLG' : upd G' q3 (.tup [.str (told[r + i]'(by omega)), .str posts[j1], .str posts[j2]]) Lf = none := by rw [upd_ne hne]; exact hLG
              walk_at "r"
              refine ⟨_, vs ++ [.ref q3], fs ++ [(told[r + i]'(by omega), posts[j1], posts[j2])], _, _, _, _, (d.mut hLG' hL0).mono (by omega), sG _ _ hP, sG _ _ hT4, hLG', upd_same, (hrow.mono fun _ _ => RowV.mono sG).snoc ⟨q3, rfl, upd_same⟩, ?_, ?_, rfl⟩
              · rw [List.map_append, ← Nat.add_assoc, take_snoc ti]
                exact hsub.append (List.Sublist.refl _)
              · intro e he
                rcases List.mem_append.mp he with he | he
                · exact hends e he
                · rw [List.mem_singleton.mp he]
                  exact ⟨List.getElem_mem _, List.getElem_mem _⟩
            · intro R hR
              walk_at "r"
              by_cases c2 : (r4 : Int) < r3
              · rw [decide_eq_true c2]
                walk_at "r"
                refine r_tk (mm := 3) d (by omega) (by omega) (by omega) fun r5 o5 hr5 d => ?_
                have hLf : upd H6 p o5 Lf = some (.lst vs) := by rw [upd_ne (Ne.symm hpL)]; exact hLf
                walk_at "r"
                by_cases c3 : (0 : Int) < r5
                · refine r_yes (decide_eq_true c3) ?_
                  walk_at "r"
                  refine ⟨_, _, rfl, hR _ _ ⟨r4, r3, d, hLf, hr4, hr3, rfl⟩⟩
                · refine r_no (decide_eq_false c3) ?_
                  walk_at "r"
                  exact hR _ _ ⟨r3, r4, d, hLf, hr3, hr4, rfl⟩
              · rw [decide_eq_false c2]
                walk_at "r"
                exact hR _ _ ⟨r3, r4, d.mono (by omega), hLf, hr3, hr4, rfl⟩
          · refine r_no (decide_eq_false c) ?_
            walk_at "r"
            exact ⟨G', vs, fs, _, _, _, _, d.mono (by omega), hP, hT4, hLG, hLf, hrow, hsub.trans (List.take_sublist_take_left (by omega)), hends, rfl⟩
        · rintro σ H5 ⟨G', vs, fs, x1, x2, x3, x4, d, hP, hT4, hLG, hLf, hrow, hsub, hends, rfl⟩
          walk_at "r"
          have hlen : vs.length ≤ 8 := by
            have h1 := hsub.length_le
            rw [List.length_map, List.length_take] at h1
            rw [hrow.1]; omega
          have hn2 : n + 310 + 4 * ((told.drop r).map V.str).length ≤ n + 400 := by rw [List.length_map, List.length_drop]; omega
          have d := d.mono hn2
          refine ⟨p, Lf, vs, n + 400, rfl, hLf, Ne.symm (d.ne hL0), by omega, d.pl, by omega, fun q5 ys H6 dr hq50 hq5 hperm => ?_⟩
          have hq5G : H q5 = none := d.free hq50
          have sG := same_upd (o := .lst ys) (d.free1 hq50)
          have d := (d.dr dr).tell hq5 hq5G
          obtain ⟨ws, hpw, hrw⟩ := hrow.perm hperm
          walk_at "r"
          refine ⟨sz_lit rfl, fun q6 hq6 => ?_⟩
          have sG2 := same_upd (o := .lst [.ref a, .ref q5]) (d.free1 hq6)
          have d := d.newT (o := .lst [.ref a, .ref q5]) hq6
          refine k q6 posts ws _ _ (d.mono (by omega)) ⟨a, q5, ys, upd_same, sG2 _ _ (sG _ _ hP), sG2 _ _ upd_same, hrw.mono fun _ _ h => RowV.mono sG2 (RowV.mono sG h)⟩ ?_
          have hnl := (hsub.trans (List.take_sublist _ _))
          refine ⟨fun z => ?_, by omega, hpn, ?_, ⟨?_, ?_⟩, fun e he => hends e (hpw.mem_iff.mp he)⟩
          · rw [z] at hpl; cases hpl
          · rw [hpw.length_eq, ← hrow.1]; exact hlen
          · exact ((hpw.map (·.1)).nodup_iff).mpr (hns.nd.sublist hnl)
          · exact fun z hz => hns.nm z (hnl.subset ((hpw.map (·.1)).mem_iff.mp hz))
    · intro R hR
      walk_at "r"
      refine r_tk (mm := 3) d (by decide) (by decide) (by omega) fun r9 o9 hr9 d => ?_
      walk_at "r"
      refine r_eq rfl ?_
      walk_at "r"
      by_cases c : decide (V.int (r9 : Int) = V.int 0) = true
      · refine r_yes c ?_
        walk_at "r"
        refine ⟨q2, rfl, ⟨_, .inl (.inl (d.at hT2))⟩, fun Dl hD => ?_⟩
        have hD0 := d.free hD
        have hDG := d.free1 hD
        refine lc_it (walk_list (xs := ns2.map V.str)) (fun i H' => Dg p (n + 300) G H G2 H' ∧ H' Dl = some (.lst (((ns2.take i).filter fun z => !decide (z ∈ posts)).map V.str))) ⟨(d.newH hD).mono (by omega), upd_same⟩ (fun _ _ _ h => .inl (.inl (h.1.at hT2))) ?_ ?_
        · rintro i x H5' H5 hi ⟨d, hDl⟩ ⟨rfl, hx⟩
          rw [List.length_map] at hi
          have ti : ns2[i]? = some ns2[i] := List.getElem?_eq_getElem _
          have ex : x = .str ns2[i] := by
            rw [List.getElem?_map, ti] at hx
            exact (Option.some.inj hx).symm
          subst ex
          walk_at "r"
          refine ⟨rfl, ?_⟩
          walk_at "r"
          refine r_ninS (ks := posts) (.inl (.inl (.inl (d.at hP)))) ?_
          walk_at "r"
          rw [take_snoc ti, List.filter_append, List.map_append]
          by_cases c2 : ns2[i] ∈ posts
          · refine r_no (by rw [decide_eq_true c2]; rfl) ?_
            refine ⟨d, ?_⟩
            rw [List.filter_cons_of_neg (by simp [c2]), List.filter_nil, List.map_nil, List.append_nil]
            exact hDl
          · refine r_yes (by rw [decide_eq_false c2]; rfl) ?_
            walk_at "r"
            refine ⟨_, hDl, ?_, d.mut hDG hD0, ?_⟩
            · rw [List.length_map]
              refine small_lt (Nat.le_trans (List.length_filter_le _ _) ?_)
              rw [List.length_take]; omega
            · rw [upd_same, List.filter_cons_of_pos (by simp [c2]), List.filter_nil]
              rfl
        · rintro H5 ⟨d, hDl⟩
          have et : ns2.take (ns2.map V.str).length = ns2 := List.take_of_length_le (by rw [List.length_map]; exact Nat.le_refl _)
          rw [et] at hDl
          refine r_cat (d.at hP) hDl ?_ fun q7 hq7 => ?_
          · rw [List.length_map, List.length_map]
            have := List.length_filter_le (fun z => !decide (z ∈ posts)) ns2
            exact small_sz (by omega)
          have d := d.newH (o := .lst (posts.map V.str ++ (ns2.filter fun z => !decide (z ∈ posts)).map V.str)) hq7
          walk_at "r"
          refine r_slL upd_same fun q8 hq8 => ?_
          rw [← List.map_append, show (8 : Int) = ((8 : Nat) : Int) from rfl, cut_to, ← List.map_take] at *
          have sG := same_upd (o := .lst (((posts ++ ns2.filter fun z => !decide (z ∈ posts)).take 8).map V.str)) (d.free1 hq8)
          have d := d.newT (o := .lst (((posts ++ ns2.filter fun z => !decide (z ∈ posts)).take 8).map V.str)) hq8
          walk_at "r"
          have hsb : ((posts ++ ns2.filter fun z => !decide (z ∈ posts)).take 8).Sublist (posts ++ ns2.filter fun z => !decide (z ∈ posts)) := List.take_sublist _ _
          refine hR _ _ ⟨_, q8, _, _, d, sG _ _ hP, upd_same, ⟨List.Nodup.sublist hsb ?_, fun z hz => ?_⟩, List.length_take_le _ _, ?_, rfl⟩
          · rw [List.nodup_append]
            refine ⟨hpn.nd, hns2.nd.sublist List.filter_sublist, fun x hx y hy e => ?_⟩
            have := (List.mem_filter.mp hy).2
            rw [← e, decide_eq_true hx] at this
            cases this
          · rcases List.mem_append.mp (hsb.subset hz) with h | h
            · exact hpn.nm z h
            · exact hns2.nm z (List.mem_filter.mp h).1
          · rw [List.length_take, List.length_append]
            omega
      · refine r_no (eq_false_of_ne_true c) ?_
        walk_at "r"
        exact hR _ _ ⟨G2, q2, ns2, _, d.mono (by omega), hP, hT2, hns2, by omega, by omega, rfl⟩
end
end K48
/-! ## KD5 -/
set_option maxHeartbeats 4000000
namespace K48
open PySem L2
local macro_rules | `(tactic| walk_at "r1") => `(tactic| first
  | with_reducible refine r_seq ?_ | with_reducible refine r_asg ?_ | with_reducible refine r_ret ?_ | with_reducible refine r_drop ?_ | with_reducible refine r_if ?_ | with_reducible refine r_next ?_
  | with_reducible refine r_name ?_ | with_reducible refine r_c ?_ | ((with_reducible show tVar _ _ _ _); refine r_var rfl ?_) | with_reducible refine r_op ?_ | with_reducible refine r_un ?_
  | with_reducible refine r_i0 ?_ | with_reducible refine r_test ?_ | with_reducible refine r_tB ?_ | with_reducible refine r_bl ?_ | with_reducible refine r_and ?_ | with_reducible refine r_or ?_
  | with_reducible refine r_not ?_ | with_reducible refine r_ifE ?_ | with_reducible refine r_cons ?_ | with_reducible refine r_nil ?_ | with_reducible refine r_cb ?_ | with_reducible refine r_call ?_
  | with_reducible refine r_lst ?_ | with_reducible refine r_tup ?_ | with_reducible refine r_sl ?_ | with_reducible refine r_noP ?_ | with_reducible refine r_part ?_ | with_reducible refine r_exI ?_
  | with_reducible refine r_tr ?_ | with_reducible refine r_fa ?_ | with_reducible refine r_for ?_ | with_reducible refine r_iList ?_ | with_reducible refine r_iTup ?_ | with_reducible refine r_iStr ?_
  | with_reducible refine r_iR1 ?_ | with_reducible refine r_iR2 ?_ | with_reducible refine r_lc ?_ | with_reducible refine r_nt ?_ | with_reducible refine r_nf ?_ | with_reducible refine r_orV ?_ | with_reducible refine r_andV ?_ | with_reducible refine r_yesT ?_ | with_reducible refine r_gsub ?_ | with_reducible refine r_gcons ?_ | with_reducible refine r_gnil ?_ | with_reducible refine r_bm ?_ | with_reducible refine r_bm0 ?_
  | with_reducible refine r_fld ?_ | with_reducible refine r_sfld ?_ | with_reducible refine r_meth ?_ | with_reducible refine r_make ?_ | with_reducible refine r_dget ?_ | with_reducible refine r_din ?_ | with_reducible refine r_dnin ?_ | with_reducible refine r_dput ?_
  | with_reducible refine r_dgetN ?_ | with_reducible refine r_dinN ?_ | with_reducible refine r_dninN ?_ | with_reducible refine r_dputN ?_ | ((with_reducible show tAug _ _ _ _ _ _); refine r_aug rfl ?_) | with_reducible refine r_par ?_ | with_reducible refine r_neg ?_ | with_reducible refine r_iEnum ?_ | with_reducible refine r_iZip ?_ | with_reducible refine r_iZipA ?_)
local macro_rules | `(tactic| walk_at "r") => `(tactic| repeat walk_at "r1")

theorem atI_last {α : Type} {xs : List α} (h : xs ≠ []) : atI xs (-1) = some (xs.getLast h) := by
  have h0 : 0 < xs.length := List.length_pos_iff.mpr h
  unfold atI ixN
  rw [if_neg (by decide), if_pos (by omega)]
  show xs[(-1 + (xs.length : Int)).toNat]? = _
  have e : (-1 + (xs.length : Int)).toNat = xs.length - 1 := by omega
  rw [e, List.getLast_eq_getElem, List.getElem?_eq_getElem]
section
variable {P : Program} {w : World} {K : PySem.W.Frag} {mg : Str → Option Value} {base : Heap}
abbrev st__law_course : Stmt := topS 81
abbrev N__law_course : List Str := ["_law_pool_here", "_law_parts", "_law_posts", "_law_start", "_law_many_here", "_law_k", "_law_ends_here"]
theorem sc__law_course : FnScope N__law_course ["_law_pool_here", "_law_parts"] (defScope st__law_course) := ⟨rfl, rfl, rfl, by decide +kernel, rfl, by decide +kernel, by decide +kernel⟩
theorem ok__law_course (T : Top K mg) (F : Dn K mg "_law_course" st__law_course) (c__law_take : Cal P w K mg base 1 "_law_take" spTake) : Cal P w K mg base 2 "_law_course" (spCourseD K) := by
  refine F.cal sc__law_course (fun vs H Q E h => ?_) (fun _ _ _ _ _ _ us hl => match us, hl with | [_, _], _ => rfl) (fun f cdv A outer s H vs Q E hr h => ?_)
  · obtain ⟨p, q, G, posts, lanes, n, rfl, _⟩ := h
    rfl
  · obtain ⟨p, q, G, posts, lanes, n, rfl, sg, gp, hp, hn, hparts, hnet, k⟩ := h
    obtain ⟨a, b, rows, hq, hP, _, _⟩ := hparts.ex
    have d := Dg.refl sg hp gp
    have hpl : 0 < posts.length := List.length_pos_iff.mpr hnet.p0
    have hp5 := hnet.p5
    refine ⟨_, (pss_cons (ps_set (i := 2) sc__law_course.nd rfl (Or.inr rfl) (pe_ix ix_list (pv 1) pe_int (fun _ _ => rfl)))
  (pss_cons (ps_set (i := 3) sc__law_course.nd rfl (Or.inl rfl) (pe_ix ix_list (pv 2) (pe_ix ix_list (pe_lst (pa_cons pe_int (pa_cons pe_int (pa_cons pe_int (pa_cons (C8.pe_c c__law_take hr (by omega) rfl (pa_cons (pv 0) (pa_cons (pe_callB call_len_seq rfl T.b_len (by decide +kernel) (pa_cons (pv 2) pa_nil)) pa_nil))) pa_nil))))) (C8.pe_c c__law_take hr (by omega) rfl (pa_cons (pv 0) (pa_cons pe_int pa_nil))) (fun _ _ => rfl)) (fun _ _ => rfl)))
  (pss_cons (ps_set (i := 4) sc__law_course.nd rfl (Or.inl rfl) (pe_ix ix_list (pe_lst (pa_cons pe_int (pa_cons pe_int (pa_cons pe_int (pa_cons pe_int pa_nil))))) (C8.pe_c c__law_take hr (by omega) rfl (pa_cons (pv 0) (pa_cons pe_int pa_nil))) (fun _ _ => rfl)))
  (pss_cons (ps_setLc (i := 6) (own := [("_law_k", 5)]) (g := (gName 5)) (tt := tYes) rfl sc__law_course.nd rfl rfl (sw_true rfl rfl rfl (by decide +kernel)) (pi_range1 rfl T.b_range (pa_cons (pv 4) pa_nil)) (blkOk_by (N := N__law_course) (sc := defScope st__law_course) (by decide +kernel)) (fun _ _ _ _ _ => (pg_name (i := 5) sc__law_course.nd rfl (Or.inl rfl))) (fun _ _ _ _ _ => pts_nil) (fun _ _ _ _ _ => (pe_ix (ix_list : IxR _ (rIxL K)) (pv 2) (C8.pe_c c__law_take hr (by omega) rfl (pa_cons (pv 0) (pa_cons (pe_callB (call_len_seq : CallR _ _ (rLenQ K)) rfl T.b_len (by decide +kernel) (pa_cons (pv 2) pa_nil)) pa_nil))) (fun _ _ => rfl))))
  (pss_cons (ps_if (pt_cmpR op_gt (C8.pe_c c__law_take hr (by omega) rfl (pa_cons (pv 0) (pa_cons pe_int pa_nil))) pe_int (nomark _)) (pss_one (ps_expr (pe_bm PySem.F.plainAttrs_list PySem.F.slot_list_append PySem.F.type_list_append mt_append (pv 6) (pa_cons (pe_ix ix_list (pv 2) (pe_un un_neg pe_int) (fun _ _ => rfl)) pa_nil)))) pss_nil)
  (pss_one (ps_ret (pe_tup (pa_cons (pv 3) (pa_cons (pv 6) pa_nil)))))))))), ?_⟩
    walk_at "r"
    refine r_ixL0 (d.at hq) ?_
    walk_at "r"
    refine ⟨a, _, rfl, .inl (.inl (.inl (d.at hP))), ?_⟩
    walk_at "r"
    rw [List.length_map]
    refine r_tk (mm := posts.length) d hpl (by omega) (by omega) fun r o hr d => ?_
    walk_at "r"
    refine ⟨sz_lit rfl, fun l1 hl1 => ?_⟩
    have hpl1 := d.ne1 hl1
    have d := d.newH (o := .lst [.int 0, .int 0, .int 0, .int (r : Nat)]) hl1
    walk_at "r"
    refine r_tk (mm := 4) d (by decide) (by decide) (by omega) fun r2 o2 hr2 d => ?_
    have hpl1 : p ≠ l1 := by assumption
    have pick : ∃ j : Nat, j < posts.length ∧ [V.int 0, .int 0, .int 0, .int (r : Nat)][r2]? = some (.int (j : Nat)) := by
      match r2, hr2 with
      | 0, _ => exact ⟨0, hpl, rfl⟩
      | 1, _ => exact ⟨0, hpl, rfl⟩
      | 2, _ => exact ⟨0, hpl, rfl⟩
      | 3, _ => exact ⟨r, hr, rfl⟩
    obtain ⟨j, hj, ej⟩ := pick
    refine r_ixL (by rw [upd_ne (Ne.symm hpl1), upd_same]) ej ?_
    walk_at "r"
    refine r_ixL (d.at hP) (by rw [List.getElem?_map, List.getElem?_eq_getElem hj]; rfl) ?_
    walk_at "r"
    refine ⟨sz_lit rfl, fun l2 hl2 => ?_⟩
    have hpl2 := d.ne1 hl2
    have d := d.newH (o := .lst [.int 0, .int 1, .int 1, .int 2]) hl2
    walk_at "r"
    refine r_tk (mm := 4) d (by decide) (by decide) (by omega) fun r3 o3 hr3 d => ?_
    have pick : ∃ j : Nat, j ≤ 2 ∧ [V.int 0, .int 1, .int 1, .int 2][r3]? = some (.int (j : Nat)) := by
      match r3, hr3 with
      | 0, _ => exact ⟨0, by omega, rfl⟩
      | 1, _ => exact ⟨1, by omega, rfl⟩
      | 2, _ => exact ⟨1, by omega, rfl⟩
      | 3, _ => exact ⟨2, by omega, rfl⟩
    obtain ⟨m, hm, em⟩ := pick
    refine r_ixL (by rw [upd_ne (Ne.symm hpl2), upd_same]) em ?_
    walk_at "r"
    refine ⟨_, rfl, by omega, by omega, fun Dl hD => ?_⟩
    have hD0 := d.free hD
    have hDG := d.free1 hD
    refine lc_it walk_rng0 (fun i H' => ∃ es : List Str, es.length = i ∧ (∀ z ∈ es, z ∈ posts) ∧ Dg p (n + 3 + i) G H G H' ∧ H' Dl = some (.lst (es.map V.str))) ⟨[], rfl, by simp, (d.newH hD), upd_same⟩ (fun _ _ _ _ => trivial) ?_ ?_
    · rintro i x H5' H5 hi ⟨es, hl, hes, d, hDl⟩ ⟨rfl, rfl⟩
      have hi' : i < m := hi
      walk_at "r"
      refine ⟨rfl, ?_⟩
      walk_at "r"
      refine r_lenQL (d.at hP) ?_
      walk_at "r"
      rw [List.length_map]
      refine r_tk (mm := posts.length) d hpl (by omega) (by omega) fun r4 o4 hr4 d => ?_
      refine r_ixL (d.at hP) (by rw [List.getElem?_map, List.getElem?_eq_getElem hr4]; rfl) ?_
      refine ⟨_, by rw [upd_ne (Ne.symm (d.ne hD0))]; exact hDl, by rw [List.length_map]; exact small_lt (by omega), es ++ [posts[r4]], by rw [List.length_append, hl]; rfl, ?_, d.mut hDG hD0, by rw [upd_same, List.map_append]; rfl⟩
      intro z hz
      rcases List.mem_append.mp hz with hz | hz
      · exact hes z hz
      · rw [List.mem_singleton.mp hz]; exact List.getElem_mem _
    · rintro H5 ⟨es, hl, hes, d, hDl⟩
      have hl' : es.length = m := hl
      have fin : ∀ (es : List Str) (H5 : Hp), es.length ≤ 3 → (∀ z ∈ es, z ∈ posts) → Dg p (n + 10) G H G H5 → H5 Dl = some (.lst (es.map V.str)) → ∀ t, H5 t = none → Q (.ref t) (upd H5 t (.tup [.str posts[j], .ref Dl])) := fun es H5 h3 hes d hDl t ht => by
        have d := d.tell hDl hD0
        have sG := same_upd (o := .tup [.str posts[j], .ref Dl]) (d.free1 ht)
        have d := d.newT (o := .tup [.str posts[j], .ref Dl]) ht
        exact k t Dl posts[j] es _ _ (d.mono (by omega)) upd_same (sG _ _ upd_same) (List.getElem_mem _) hes h3
      walk_at "r"
      refine r_tk (mm := 5) (d.mono (show n + 3 + (m : Int).toNat ≤ n + 8 by omega)) (by decide) (by decide) (by omega) fun r5 o5 hr5 d => ?_
      have hDl : upd H5 p o5 Dl = some (.lst (es.map V.str)) := by rw [upd_ne (Ne.symm (d.ne hD0))]; exact hDl
      walk_at "r"
      by_cases c : (0 : Int) < r5
      · refine r_yes (decide_eq_true c) ?_
        walk_at "r"
        refine r_tyL hDl ?_
        walk_at "r"
        have hne : posts.map V.str ≠ [] := fun z => hnet.p0 (List.map_eq_nil_iff.mp z)
        refine ⟨a, _, _, _, rfl, rfl, .inl (.inl (d.at hP)), atI_last hne, ?_⟩
        walk_at "r"
        rw [List.getLast_map]
        refine r_app hDl (by rw [List.length_map]; exact small_lt (by omega)) ?_
        walk_at "r"
        refine ⟨sz_lit rfl, fun t ht => ?_⟩
        refine fin (es ++ [posts.getLast hnet.p0]) _ (by rw [List.length_append]; show _ + 1 ≤ _; omega) ?_ ((d.mut hDG hD0).mono (by omega)) (by rw [upd_same, List.map_append]; rfl) t ht
        intro z hz
        rcases List.mem_append.mp hz with hz | hz
        · exact hes z hz
        · rw [List.mem_singleton.mp hz]; exact List.getLast_mem _
      · refine r_no (decide_eq_false c) ?_
        walk_at "r"
        refine ⟨sz_lit rfl, fun t ht => ?_⟩
        exact fin es _ (by omega) hes (d.mono (by omega)) hDl t ht
end
end K48
/-! ## KQ -/
set_option maxHeartbeats 4000000
namespace K48
open PySem L2
local macro_rules | `(tactic| walk_at "r1") => `(tactic| first
  | with_reducible refine r_seq ?_ | with_reducible refine r_asg ?_ | with_reducible refine r_ret ?_ | with_reducible refine r_drop ?_ | with_reducible refine r_if ?_ | with_reducible refine r_next ?_
  | with_reducible refine r_name ?_ | with_reducible refine r_c ?_ | ((with_reducible show tVar _ _ _ _); refine r_var rfl ?_) | with_reducible refine r_op ?_ | with_reducible refine r_un ?_
  | with_reducible refine r_i0 ?_ | with_reducible refine r_test ?_ | with_reducible refine r_tB ?_ | with_reducible refine r_bl ?_ | with_reducible refine r_and ?_ | with_reducible refine r_or ?_
  | with_reducible refine r_not ?_ | with_reducible refine r_ifE ?_ | with_reducible refine r_cons ?_ | with_reducible refine r_nil ?_ | with_reducible refine r_cb ?_ | with_reducible refine r_call ?_
  | with_reducible refine r_lst ?_ | with_reducible refine r_tup ?_ | with_reducible refine r_sl ?_ | with_reducible refine r_noP ?_ | with_reducible refine r_part ?_ | with_reducible refine r_exI ?_
  | with_reducible refine r_tr ?_ | with_reducible refine r_fa ?_ | with_reducible refine r_for ?_ | with_reducible refine r_iList ?_ | with_reducible refine r_iTup ?_ | with_reducible refine r_iStr ?_
  | with_reducible refine r_iR1 ?_ | with_reducible refine r_iR2 ?_ | with_reducible refine r_lc ?_ | with_reducible refine r_nt ?_ | with_reducible refine r_nf ?_ | with_reducible refine r_orV ?_ | with_reducible refine r_andV ?_ | with_reducible refine r_yesT ?_ | with_reducible refine r_gsub ?_ | with_reducible refine r_gcons ?_ | with_reducible refine r_gnil ?_ | with_reducible refine r_bm ?_ | with_reducible refine r_bm0 ?_
  | with_reducible refine r_fld ?_ | with_reducible refine r_sfld ?_ | with_reducible refine r_meth ?_ | with_reducible refine r_make ?_ | with_reducible refine r_dget ?_ | with_reducible refine r_din ?_ | with_reducible refine r_dnin ?_ | with_reducible refine r_dput ?_
  | with_reducible refine r_dgetN ?_ | with_reducible refine r_dinN ?_ | with_reducible refine r_dninN ?_ | with_reducible refine r_dputN ?_ | ((with_reducible show tAug _ _ _ _ _ _); refine r_aug rfl ?_) | with_reducible refine r_par ?_ | with_reducible refine r_neg ?_ | with_reducible refine r_iEnum ?_ | with_reducible refine r_iZip ?_ | with_reducible refine r_iZipA ?_)
local macro_rules | `(tactic| walk_at "r") => `(tactic| repeat walk_at "r1")

theorem hu1 {k : Nat} {A : Around} (r : Room k A) : A.units + 1 < cLine := by have := r.units; omega
theorem hu65 {k : Nat} {A : Around} (r : Room k A) : A.units + 65 < cLine := by have := r.un; omega
section
variable {σ : St} {H : Hp} {K : PySem.W.Frag} {ts : TA} {R : It → Hp → Prop}
theorem r_iEnum (k : ts σ H fun vs H1 => ∃ a xs, vs = [.ref a] ∧ SqL K H1 a xs ∧ R (Ite K a) H1) : iEnum K ts σ H R := k
theorem r_iZipA (k : ts σ H fun vs H1 => ∃ a b xs ys, vs = [.ref a, .ref b] ∧ ((SqL K H1 a xs ∧ SqL K H1 b ys ∧ R (Itz K a b) H1) ∨ (SqT K H1 a xs ∧ SqT K H1 b ys ∧ R (RZ.ItzT K a b) H1))) : RZ.iZipA K ts σ H R := k
theorem r_iZip (k : ts σ H fun vs H1 => ∃ a b xs ys, vs = [.ref a, .ref b] ∧ SqL K H1 a xs ∧ SqL K H1 b ys ∧ R (Itz K a b) H1) : iZip K ts σ H R := k
end
section
variable {σ : St} {H H1 G1 : Hp} {K : PySem.W.Frag} {ts : TA} {te tf : TE} {Q : VK} {xs ys : List V} {a b p : Addr}
theorem e_newQ {o : HO} {Q' : Addr → Hp → Prop} (s : Same G1 H1) (k : ∀ p G2 H2, Grow no G1 H1 G2 H2 → G2 p = some o → H1 p = none → Q' p H2) : ∀ p, H1 p = none → Q' p (upd H1 p o) :=
  fun p hp => k p _ _ ((Grow.refl s).newN hp) upd_same hp
/-- a new list, a new tuple, told by any ghost -/
def newL (Q : VK) (xs : List V) (H1 : Hp) : Prop := xs.length ≤ sizeLine ∧ ∀ p, H1 p = none → Q (.ref p) (upd H1 p (.lst xs))
def newT (Q : VK) (xs : List V) (H1 : Hp) : Prop := xs.length ≤ sizeLine ∧ ∀ p, H1 p = none → Q (.ref p) (upd H1 p (.tup xs))
theorem r_lstG (k : ts σ H (newL Q)) : tLst ts σ H Q := k
theorem r_tupG (k : ts σ H (newT Q)) : tTup ts σ H Q := k
theorem e_lst (s : Same G1 H1) (hl : Nat.ble xs.length 100000 = true) (k : ∀ p G2 H2, Grow no G1 H1 G2 H2 → G2 p = some (.lst xs) → H1 p = none → Q (.ref p) H2) : newL Q xs H1 := ⟨small_sz (Nat.le_of_ble_eq_true hl), e_newQ (Q' := fun p H => Q (.ref p) H) s k⟩
theorem e_tup (s : Same G1 H1) (hl : Nat.ble xs.length 100000 = true) (k : ∀ p G2 H2, Grow no G1 H1 G2 H2 → G2 p = some (.tup xs) → H1 p = none → Q (.ref p) H2) : newT Q xs H1 := ⟨small_sz (Nat.le_of_ble_eq_true hl), e_newQ (Q' := fun p H => Q (.ref p) H) s k⟩
/-- the heap alone -/
theorem h_lst (hl : Nat.ble xs.length 100000 = true) (k : ∀ p H2, Same H1 H2 → H2 p = some (.lst xs) → H1 p = none → Q (.ref p) H2) : newL Q xs H1 := ⟨small_sz (Nat.le_of_ble_eq_true hl), fun p hp => k p _ (same_upd hp) upd_same hp⟩
theorem h_tup (hl : Nat.ble xs.length 100000 = true) (k : ∀ p H2, Same H1 H2 → H2 p = some (.tup xs) → H1 p = none → Q (.ref p) H2) : newT Q xs H1 := ⟨small_sz (Nat.le_of_ble_eq_true hl), fun p hp => k p _ (same_upd hp) upd_same hp⟩
theorem e_cat (s : Same G1 H1) (ha : G1 a = some (.lst xs)) (hb : G1 b = some (.lst ys)) (hl : xs.length + ys.length ≤ 100000) (k : ∀ p G2 H2, Grow no G1 H1 G2 H2 → G2 p = some (.lst (xs ++ ys)) → H1 p = none → Q (.ref p) H2) : rCat (.ref a) (.ref b) H1 Q :=
  r_cat (s _ _ ha) (s _ _ hb) (small_sz hl) (e_newQ (Q' := fun p H => Q (.ref p) H) s k)
theorem e_slL {lo hi : Option Int} (s : Same G1 H1) (ha : G1 a = some (.lst xs)) (k : ∀ p G2 H2, Grow no G1 H1 G2 H2 → G2 p = some (.lst (cutV xs lo hi)) → H1 p = none → Q (.ref p) H2) : rSlL K (.ref a) lo hi H1 Q :=
  r_slL (s _ _ ha) (e_newQ (Q' := fun p H => Q (.ref p) H) s k)
def rTupQ (K : PySem.W.Frag) : List V → Hp → VK → Prop := fun xs H Q => ∃ p ys, xs = [.ref p] ∧ ((SqL K H p ys ∧ ∀ l, H l = none → Q (.ref l) (upd H l (.tup ys))) ∨ (SqT K H p ys ∧ Q (.ref p) H))
def rListQ (K : PySem.W.Frag) : List V → Hp → VK → Prop := fun xs H Q => ∃ p ys, xs = [.ref p] ∧ (SqL K H p ys ∨ SqT K H p ys) ∧ ∀ l, H l = none → Q (.ref l) (upd H l (.lst ys))
theorem e_tupQ (s : Same G1 H) (hp : H p = some (.lst xs)) (k : ∀ q G2 H2, Grow no G1 H G2 H2 → G2 q = some (.tup xs) → H q = none → Q (.ref q) H2) : rTupQ K [.ref p] H Q :=
  ⟨p, xs, rfl, .inl ⟨.inl (.inl hp), e_newQ (Q' := fun p H => Q (.ref p) H) s k⟩⟩
theorem r_tupQT (hp : H p = some (.tup xs)) (k : Q (.ref p) H) : rTupQ K [.ref p] H Q := ⟨p, xs, rfl, .inr ⟨.inl (.inl hp), k⟩⟩
theorem e_listQ (s : Same G1 H) (hp : H p = some (.lst xs)) (k : ∀ q G2 H2, Grow no G1 H G2 H2 → G2 q = some (.lst xs) → H q = none → Q (.ref q) H2) : rListQ K [.ref p] H Q :=
  ⟨p, xs, rfl, .inl (.inl (.inl hp)), e_newQ (Q' := fun p H => Q (.ref p) H) s k⟩
theorem e_listQT (s : Same G1 H) (hp : H p = some (.tup xs)) (k : ∀ q G2 H2, Grow no G1 H G2 H2 → G2 q = some (.lst xs) → H q = none → Q (.ref q) H2) : rListQ K [.ref p] H Q :=
  ⟨p, xs, rfl, .inr (.inl (.inl hp)), e_newQ (Q' := fun p H => Q (.ref p) H) s k⟩
theorem r_newK (s : Same G1 H) (k : ∀ d H2, Same H H2 → H2 d = some (.dK []) → H d = none → Q (.ref d) H2) : tDNewK σ H Q := fun d hd => k d _ (same_upd hd) upd_same hd
end
/-! data of the deep comparisons -/
/-- flat enough -/
def Dk (n : Nat) (d : PyData) : Prop := d.canLay0 = true ∧ d.depth ≤ n
theorem dk_int (i : Int) : Dk 0 (.int i) := ⟨by simp [PyData.canLay0], by simp [PyData.depth]⟩
theorem nm_ok {z : Str} (h : IsNm z) : Dk 0 (.str z) := by
  refine ⟨?_, by simp [PyData.depth]⟩
  have hl : ∀ x ∈ lets ++ digs, x < 0x110000 := by decide +kernel
  simp only [PyData.canLay0]
  unfold PyData.strOk
  rw [← Array.all_toList, List.all_eq_true]
  intro x hx
  exact decide_eq_true (hl x (List.mem_append.mpr (h.all x hx)))
theorem dk_all {n : Nat} : ∀ {ds : List PyData}, (∀ d ∈ ds, Dk n d) → PyData.canLayAll0 ds = true ∧ PyData.depthAll ds ≤ n
  | [], _ => by simp [PyData.canLayAll0, PyData.depthAll]
  | d :: ds, h => by
    obtain ⟨h1, h2⟩ := dk_all (ds := ds) fun x hx => h x (List.mem_cons_of_mem _ hx)
    obtain ⟨g1, g2⟩ := h d List.mem_cons_self
    simp only [PyData.canLayAll0, PyData.depthAll, h1, g1]
    exact ⟨rfl, by omega⟩
theorem dk_list {n : Nat} {ds : List PyData} (h : ∀ d ∈ ds, Dk n d) : Dk (n + 1) (.list ds) := by
  obtain ⟨h1, h2⟩ := dk_all h
  exact ⟨by simp only [PyData.canLay0]; exact h1, by simp only [PyData.depth]; omega⟩
theorem dk_tup {n : Nat} {ds : List PyData} (h : ∀ d ∈ ds, Dk n d) : Dk (n + 1) (.tuple ds) := by
  obtain ⟨h1, h2⟩ := dk_all h
  exact ⟨by simp only [PyData.canLay0]; exact h1, by simp only [PyData.depth]; omega⟩
theorem Dk.shaped {n : Nat} {d : PyData} (h : Dk n d) (hn : n ≤ 64) : SeqAt.shaped d = true := by
  show (d.canLay0 && decide (d.depth ≤ 64)) = true
  rw [h.1, decide_eq_true (by have := h.2; omega)]
  rfl
theorem eqv_nil {ds : List PyData} : PyData.eqv (.list ds) (.list []) = ds.isEmpty := by
  cases ds <;> simp [PyData.eqv, PyData.eqvAll]
section
variable {K : PySem.W.Frag} {H : Hp} {Q : VK} {a b : Addr} {xs : List V} {ds : List PyData} {n : Nat}
theorem dpall_len (h : DpAll K H xs ds) : xs.length = ds.length := by
  induction ds generalizing xs with
  | nil => cases h; rfl
  | cons d ds ih => cases h with | cons h1 h2 => rw [List.length_cons, List.length_cons, ih h2]
theorem r_neNil (ha : H a = some (.lst xs)) (hd : DpAll K H xs ds) (hk : ∀ d ∈ ds, Dk n d) (hn : n ≤ 60) (hb : H b = some (.lst [])) (k : Q (.bl (!xs.isEmpty)) H) : rNeD K (.ref a) (.ref b) H Q := by
  refine ⟨.list ds, .list [], .lst (.inl (.inl ha)) hd, .lst (.inl (.inl hb)) .nil, (dk_list hk).shaped (by omega), rfl, ?_⟩
  rw [eqv_nil]
  have := dpall_len hd
  have e : ds.isEmpty = xs.isEmpty := by cases ds <;> cases xs <;> simp_all
  rw [e]
  exact k
theorem r_eqNil (ha : H a = some (.lst xs)) (hd : DpAll K H xs ds) (hk : ∀ d ∈ ds, Dk n d) (hn : n ≤ 60) (hb : H b = some (.lst [])) (k : Q (.bl xs.isEmpty) H) : rEqD K (.ref a) (.ref b) H Q := by
  refine ⟨.list ds, .list [], .lst (.inl (.inl ha)) hd, .lst (.inl (.inl hb)) .nil, (dk_list hk).shaped (by omega), rfl, ?_⟩
  rw [eqv_nil]
  have := dpall_len hd
  have e : ds.isEmpty = xs.isEmpty := by cases ds <;> cases xs <;> simp_all
  rw [e]
  exact k
theorem dp_strs : ∀ zs : List Str, DpAll K H (zs.map V.str) (zs.map PyData.str)
  | [] => .nil
  | z :: zs => .cons (.str z) (dp_strs zs)
theorem dk_strs {zs : List Str} (h : ∀ z ∈ zs, IsNm z) : ∀ d ∈ zs.map PyData.str, Dk 0 d := fun d hd => by
  obtain ⟨z, hz, rfl⟩ := List.mem_map.mp hd
  exact nm_ok (h z hz)
abbrev natV (n : Nat) : V := .int (n : Int)
abbrev NatL (G : Hp) (a : Addr) (ns : List Nat) : Prop := G a = some (.lst (ns.map natV))
abbrev NatT (G : Hp) (a : Addr) (ns : List Nat) : Prop := G a = some (.tup (ns.map natV))
theorem dp_nats : ∀ zs : List Nat, DpAll K H (zs.map natV) (zs.map fun n : Nat => PyData.int (n : Int))
  | [] => .nil
  | z :: zs => .cons (.int z) (dp_nats zs)
theorem dk_nats {zs : List Nat} : ∀ d ∈ zs.map fun n : Nat => PyData.int (n : Int), Dk 0 d := fun d hd => by
  obtain ⟨z, hz, rfl⟩ := List.mem_map.mp hd
  exact dk_int _
/-- lists of names: != [], == [] -/
theorem r_neNilS {zs : List Str} (ha : StrL H a zs) (hz : ∀ z ∈ zs, IsNm z) (hb : H b = some (.lst [])) (k : Q (.bl (!zs.isEmpty)) H) : rNeD K (.ref a) (.ref b) H Q :=
  r_neNil ha (dp_strs zs) (dk_strs hz) (by decide) hb (by rw [show (zs.map V.str).isEmpty = zs.isEmpty by cases zs <;> rfl]; exact k)
theorem r_eqNilS {zs : List Str} (ha : StrL H a zs) (hz : ∀ z ∈ zs, IsNm z) (hb : H b = some (.lst [])) (k : Q (.bl zs.isEmpty) H) : rEqD K (.ref a) (.ref b) H Q :=
  r_eqNil ha (dp_strs zs) (dk_strs hz) (by decide) hb (by rw [show (zs.map V.str).isEmpty = zs.isEmpty by cases zs <;> rfl]; exact k)
theorem r_neNilN {zs : List Nat} (ha : NatL H a zs) (hb : H b = some (.lst [])) (k : Q (.bl (!zs.isEmpty)) H) : rNeD K (.ref a) (.ref b) H Q :=
  r_neNil ha (dp_nats zs) dk_nats (by decide) hb (by rw [show (zs.map natV).isEmpty = zs.isEmpty by cases zs <;> rfl]; exact k)
/-- pairs of atoms -/
def PairV (G : Hp) (v : V) (x : Nat × Nat) : Prop := ∃ t, v = .ref t ∧ G t = some (.tup [natV x.1, natV x.2])
theorem PairV.mono {G G' : Hp} (s : Same G G') {v : V} {x : Nat × Nat} (h : PairV G v x) : PairV G' v x := by
  obtain ⟨t, e, h⟩ := h
  exact ⟨t, e, s _ _ h⟩
def pairD (x : Nat × Nat) : PyData := .tuple [.int (x.1 : Int), .int (x.2 : Int)]
theorem dk_pair (x : Nat × Nat) : Dk 1 (pairD x) := dk_tup fun d hd => by
  rcases List.mem_cons.mp hd with rfl | hd
  · exact dk_int _
  · rw [List.mem_singleton.mp hd]; exact dk_int _
theorem dp_pair {v : V} {x : Nat × Nat} (h : PairV H v x) : Dp K H v (pairD x) := by
  obtain ⟨t, rfl, h⟩ := h
  exact .tup (.inl (.inl h)) (.cons (.int _) (.cons (.int _) .nil))
theorem dp_pairs {ws : List V} {ps : List (Nat × Nat)} (h : Seq2 (PairV H) ws ps) : DpAll K H ws (ps.map pairD) := by
  induction ps generalizing ws with
  | nil =>
    cases ws with
    | nil => exact .nil
    | cons _ _ => cases h.1
  | cons p ps ih =>
    cases ws with
    | nil => cases h.1
    | cons w ws => exact .cons (dp_pair (h.2 0 w p rfl rfl)) (ih ⟨by have := h.1; simp at this; exact this, fun i a b ha hb => h.2 (i + 1) a b ha hb⟩)
theorem eqv_pair (x y : Nat × Nat) : PyData.eqv (pairD x) (pairD y) = decide (x = y) := by
  obtain ⟨a, b⟩ := x
  obtain ⟨c, d⟩ := y
  unfold pairD
  simp only [PyData.eqv, PyData.eqvAll, Bool.and_true]
  by_cases h1 : a = c
  · by_cases h2 : b = d
    · simp [h1, h2]
    · have : ¬ ((b : Int) = d) := fun z => h2 (by omega)
      simp [h2, this]
  · have : ¬ ((a : Int) = c) := fun z => h1 (by omega)
    simp [h1, this]
theorem r_inPairs {ws : List V} {ps : List (Nat × Nat)} {v : V} {x : Nat × Nat} (hv : PairV H v x) (hb : H b = some (.lst ws)) (hp : Seq2 (PairV H) ws ps) (k : Q (.bl (decide (x ∈ ps))) H) : rInD K v (.ref b) H Q := by
  refine ⟨pairD x, ps.map pairD, dp_pair hv, .lst (.inl (.inl hb)) (dp_pairs hp), (dk_pair x).shaped (by decide), (dk_list (n := 1) fun d hd => ?_).shaped (by decide), ?_⟩
  · obtain ⟨p, _, rfl⟩ := List.mem_map.mp hd
    exact dk_pair p
  · have e : (ps.map pairD).any (fun z => PyData.eqv z (pairD x)) = decide (x ∈ ps) := by
      rw [List.any_map]
      induction ps with
      | nil => simp
      | cons p ps ih =>
        have hp' : Seq2 (PairV H) ws.tail ps := by
          cases ws with
          | nil => cases hp.1
          | cons w ws => exact ⟨by have := hp.1; simp at this; exact this, fun i a b ha hb => hp.2 (i + 1) a b ha hb⟩
        rw [List.any_cons]
        have ih' : (ps.any ((fun z => PyData.eqv z (pairD x)) ∘ pairD)) = decide (x ∈ ps) := by
          clear ih hp hp' hb k
          induction ps with
          | nil => simp
          | cons q ps ih =>
            rw [List.any_cons, ih]
            show (PyData.eqv (pairD q) (pairD x) || _) = _
            rw [eqv_pair]
            by_cases h : q = x
            · simp [h]
            · have h2 : ¬ x = q := fun z => h z.symm
              simp [h, h2]
        rw [ih']
        show (PyData.eqv (pairD p) (pairD x) || _) = _
        rw [eqv_pair]
        by_cases h : p = x
        · simp [h]
        · have h2 : ¬ x = p := fun z => h z.symm
          simp [h, h2]
    rw [e]
    exact k
/-- a draw of an atom, a tuple that is laid -/
theorem pairV_new {t : Addr} {x y : Nat} (h : H t = some (.tup [natV x, natV y])) : PairV H (.ref t) (x, y) := ⟨t, rfl, h⟩
/-! dicts with names as keys -/
abbrev nk (z : Str) : Key := .inr z
def EndV (G : Hp) (kv : Key × V) (e : Lane Str) : Prop := kv.1 = nk e.1 ∧ ∃ t, kv.2 = .ref t ∧ G t = some (.tup [.str e.2.1, .str e.2.2])
theorem EndV.mono {G G' : Hp} (s : Same G G') {v : Key × V} {x : Lane Str} (h : EndV G v x) : EndV G' v x := by
  obtain ⟨h1, t, e, h⟩ := h
  exact ⟨h1, t, e, s _ _ h⟩
theorem valV_nil {k : Key} : valV ([] : List (Key × V)) k = none := rfl
theorem valV_cons {e : Key × V} {r : List (Key × V)} {k : Key} : valV (e :: r) k = if e.1 = k then some e.2 else valV r k := by
  unfold valV
  rw [List.find?_cons]
  by_cases h : e.1 = k
  · rw [if_pos h, decide_eq_true h]; rfl
  · rw [if_neg h, decide_eq_false h]
theorem valV_none {kvs : List (Key × V)} {k : Key} : valV kvs k = none ↔ k ∉ kvs.map (·.1) := by
  induction kvs with
  | nil => simp [valV_nil]
  | cons e r ih =>
    rw [valV_cons, List.map_cons, List.mem_cons]
    by_cases h : e.1 = k
    · rw [if_pos h]; simp [h]
    · rw [if_neg h, ih]
      have h2 : ¬ k = e.1 := fun z => h z.symm
      simp [h2]
theorem valV_mem {kvs : List (Key × V)} {k : Key} {v : V} (h : valV kvs k = some v) : (k, v) ∈ kvs := by
  induction kvs with
  | nil => cases h
  | cons e r ih =>
    rw [valV_cons] at h
    by_cases c : e.1 = k
    · rw [if_pos c] at h
      cases Option.some.inj h
      rw [← c]
      exact List.mem_cons_self
    · rw [if_neg c] at h
      exact List.mem_cons_of_mem _ (ih h)
theorem valV_some {kvs : List (Key × V)} {k : Key} (h : k ∈ kvs.map (·.1)) : ∃ v, valV kvs k = some v := by
  cases e : valV kvs k with
  | none => exact absurd h (valV_none.mp e)
  | some v => exact ⟨v, rfl⟩
theorem putK_new {kvs : List (Key × V)} {k : Key} {v : V} (h : k ∉ kvs.map (·.1)) : putK kvs k v = kvs ++ [(k, v)] := by
  unfold putK
  rw [if_neg]
  intro z
  rw [List.any_eq_true] at z
  obtain ⟨e, he, hk⟩ := z
  exact h (List.mem_map.mpr ⟨e, he, of_decide_eq_true hk⟩)
theorem valV_app {kvs : List (Key × V)} {k k' : Key} {v : V} : valV (kvs ++ [(k, v)]) k' = match valV kvs k' with | some u => some u | none => if k = k' then some v else none := by
  induction kvs with
  | nil => rw [List.nil_append, valV_cons]; rfl
  | cons e r ih =>
    rw [List.cons_append, valV_cons, valV_cons]
    by_cases c : e.1 = k'
    · rw [if_pos c, if_pos c]
    · rw [if_neg c, if_neg c, ih]
theorem endv_keys {G : Hp} {kvs : List (Key × V)} {lanes : List (Lane Str)} (h : Seq2 (EndV G) kvs lanes) : kvs.map (·.1) = lanes.map fun e => nk e.1 := by
  induction lanes generalizing kvs with
  | nil =>
    cases kvs with
    | nil => rfl
    | cons _ _ => cases h.1
  | cons e r ih =>
    cases kvs with
    | nil => cases h.1
    | cons k ks =>
      rw [List.map_cons, List.map_cons, (h.2 0 k e rfl rfl).1, ih ⟨by have := h.1; simp at this; exact this, fun i a b ha hb => h.2 (i + 1) a b ha hb⟩]
theorem nk_mem {z : Str} {l : List Str} : nk z ∈ l.map nk ↔ z ∈ l := by
  constructor
  · intro h
    obtain ⟨y, hy, e⟩ := List.mem_map.mp h
    cases e
    exact hy
  · exact fun h => List.mem_map.mpr ⟨z, h, rfl⟩
/-- a lane of the dict -/
theorem endv_get {G : Hp} {kvs : List (Key × V)} {lanes : List (Lane Str)} (h : Seq2 (EndV G) kvs lanes) (hn : (lanes.map (·.1)).Nodup) {e : Lane Str} (he : e ∈ lanes) : ∃ t, valV kvs (nk e.1) = some (.ref t) ∧ G t = some (.tup [.str e.2.1, .str e.2.2]) := by
  induction lanes generalizing kvs with
  | nil => cases he
  | cons e' r ih =>
    cases kvs with
    | nil => cases h.1
    | cons k ks =>
      obtain ⟨hk, t, ht, hg⟩ := h.2 0 k e' rfl rfl
      have h' : Seq2 (EndV G) ks r := ⟨by have := h.1; simp at this; exact this, fun i a b ha hb => h.2 (i + 1) a b ha hb⟩
      rw [List.map_cons, List.nodup_cons] at hn
      rw [valV_cons]
      rcases List.mem_cons.mp he with rfl | he
      · rw [if_pos hk]
        exact ⟨t, by rw [ht], hg⟩
      · have c : ¬ k.1 = nk e.1 := fun z => by
          rw [hk] at z
          exact hn.1 (List.mem_map.mpr ⟨e, he, (Sum.inr.inj z).symm⟩)
        rw [if_neg c]
        exact ih h' hn.2 he
theorem endv_none {G : Hp} {kvs : List (Key × V)} {lanes : List (Lane Str)} (h : Seq2 (EndV G) kvs lanes) {z : Str} : valV kvs (nk z) = none ↔ z ∉ lanes.map (·.1) := by
  rw [valV_none, endv_keys h]
  have : (lanes.map fun e => nk e.1) = (lanes.map (·.1)).map nk := by rw [List.map_map]; rfl
  rw [this, nk_mem]
end
end K48
/-! ## KD6 -/
set_option maxHeartbeats 4000000
namespace K48
open PySem L2
local macro_rules | `(tactic| walk_at "r1") => `(tactic| first
  | with_reducible refine r_seq ?_ | with_reducible refine r_asg ?_ | with_reducible refine r_ret ?_ | with_reducible refine r_drop ?_ | with_reducible refine r_if ?_ | with_reducible refine r_next ?_
  | with_reducible refine r_name ?_ | with_reducible refine r_c ?_ | ((with_reducible show tVar _ _ _ _); refine r_var rfl ?_) | with_reducible refine r_op ?_ | with_reducible refine r_un ?_
  | with_reducible refine r_i0 ?_ | with_reducible refine r_test ?_ | with_reducible refine r_tB ?_ | with_reducible refine r_bl ?_ | with_reducible refine r_and ?_ | with_reducible refine r_or ?_
  | with_reducible refine r_not ?_ | with_reducible refine r_ifE ?_ | with_reducible refine r_cons ?_ | with_reducible refine r_nil ?_ | with_reducible refine r_cb ?_ | with_reducible refine r_call ?_
  | with_reducible refine r_lst ?_ | with_reducible refine r_tup ?_ | with_reducible refine r_sl ?_ | with_reducible refine r_noP ?_ | with_reducible refine r_part ?_ | with_reducible refine r_exI ?_
  | with_reducible refine r_tr ?_ | with_reducible refine r_fa ?_ | with_reducible refine r_for ?_ | with_reducible refine r_iList ?_ | with_reducible refine r_iTup ?_ | with_reducible refine r_iStr ?_
  | with_reducible refine r_iR1 ?_ | with_reducible refine r_iR2 ?_ | with_reducible refine r_lc ?_ | with_reducible refine r_nt ?_ | with_reducible refine r_nf ?_ | with_reducible refine r_orV ?_ | with_reducible refine r_andV ?_ | with_reducible refine r_yesT ?_ | with_reducible refine r_gsub ?_ | with_reducible refine r_gcons ?_ | with_reducible refine r_gnil ?_ | with_reducible refine r_bm ?_ | with_reducible refine r_bm0 ?_
  | with_reducible refine r_fld ?_ | with_reducible refine r_sfld ?_ | with_reducible refine r_meth ?_ | with_reducible refine r_make ?_ | with_reducible refine r_dget ?_ | with_reducible refine r_din ?_ | with_reducible refine r_dnin ?_ | with_reducible refine r_dput ?_
  | with_reducible refine r_dgetN ?_ | with_reducible refine r_dinN ?_ | with_reducible refine r_dninN ?_ | with_reducible refine r_dputN ?_ | ((with_reducible show tAug _ _ _ _ _ _); refine r_aug rfl ?_) | with_reducible refine r_par ?_ | with_reducible refine r_neg ?_ | with_reducible refine r_iEnum ?_ | with_reducible refine r_iZip ?_ | with_reducible refine r_iZipA ?_)
local macro_rules | `(tactic| walk_at "r") => `(tactic| repeat walk_at "r1")

/-! ### machines of the law -/
def kindS (b : Bool) : Str := if b then "any" else "none"
def AtomL (G : Hp) (v : V) (x : Bool × List Str) : Prop := ∃ a c, v = .ref a ∧ G a = some (.tup [.str (kindS x.1), .ref c]) ∧ StrL G c x.2
theorem AtomL.mono {G G' : Hp} (s : Same G G') {v : V} {x : Bool × List Str} (h : AtomL G v x) : AtomL G' v x := by
  obtain ⟨a, c, e, h1, h2⟩ := h
  exact ⟨a, c, e, s _ _ h1, s _ _ h2⟩
structure MachL (G : Hp) (a : Addr) (m : ML Str) : Prop where
  ex : ∃ x f l ps vs ws, G a = some (.lst [.ref x, .ref f, .ref l, .ref ps, .bl m.opt]) ∧ G x = some (.lst vs) ∧ Seq2 (AtomL G) vs m.atoms ∧ NatL G f m.firsts ∧ NatL G l m.lasts ∧ G ps = some (.lst ws) ∧ Seq2 (PairV G) ws m.pairs
theorem MachL.mono {G G' : Hp} (s : Same G G') {a : Addr} {m : ML Str} (h : MachL G a m) : MachL G' a m := by
  obtain ⟨x, f, l, ps, vs, ws, h1, h2, h3, h4, h5, h6, h7⟩ := h.ex
  exact ⟨x, f, l, ps, vs, ws, s _ _ h1, s _ _ h2, h3.mono fun _ _ => AtomL.mono s, s _ _ h4, s _ _ h5, s _ _ h6, h7.mono fun _ _ => PairV.mono s⟩
def atomT (x : Bool × List Str) (l : Str) : Bool := decide (l ∈ x.2) == x.1
theorem ML.takes_at {m : ML Str} {i : Nat} {x : Bool × List Str} (h : m.atoms[i]? = some x) (l : Str) : m.mach.takes i l = atomT x l := by
  unfold ML.mach atomT
  simp only [h]
/-- a fresh list of names -/
def QL (H : Hp) (ns : List Str) (Q : VK) : Prop := ∀ (q : Addr) (H' : Hp), Same H H' → H q = none → StrL H' q ns → Q (.ref q) H'
def spEndsL : Sp := fun vs H Q _ => ∃ (q : Addr) (G : Hp) (posts : List Str) (lanes : List (Lane Str)), vs = [V.ref q] ∧ Same G H ∧ PartsAt G q posts lanes ∧ (lanes.map (·.1)).Nodup ∧ lanes.length ≤ 8 ∧
  ∀ (d : Addr) (kvs : List (Key × V)) (G' H' : Hp), Grow no G H G' H' → H d = none → G' d = none → H' d = some (.dK kvs) → Seq2 (EndV G') kvs lanes → Q (.ref d) H'
def spLanesL : Sp := fun vs H Q _ => ∃ (q : Addr) (G : Hp) (posts : List Str) (lanes : List (Lane Str)), vs = [V.ref q] ∧ Same G H ∧ PartsAt G q posts lanes ∧ lanes.length ≤ 8 ∧ QL H (lanes.map (·.1)) Q
def spTakesL : Sp := fun vs H Q _ => ∃ (v : V) (x : Bool × List Str) (l : Str), vs = [v, .str l] ∧ AtomL H v x ∧ Q (.bl (atomT x l)) H
def spDoneL : Sp := fun vs H Q _ => ∃ (a t : Addr) (m : ML Str) (ps : List Nat), vs = [.ref a, .ref t] ∧ MachL H a m ∧ NatT H t ps ∧ ps.length ≤ 100 ∧ ∀ H', Same H H' → Q (.bl (m.mach.done ps)) H'
def spLedL : Sp := fun vs H Q _ => ∃ (a t : Addr) (m : ML Str) (ps : List Nat) (l : Str), vs = [.ref a, .ref t, .str l, .bl true] ∧ MachL H a m ∧ NatT H t ps ∧ ps.length ≤ 100 ∧ m.atoms.length ≤ 100 ∧
  ∀ (q : Addr) (H' : Hp), Same H H' → H q = none → NatT H' q (m.mach.begun ps l) → Q (.ref q) H'
section
variable {P : Program} {w : World} {K : PySem.W.Frag} {mg : Str → Option Value} {base : Heap}
abbrev st__law_ends : Stmt := topS 79
abbrev N__law_ends : List Str := ["_law_parts", "_law_ends_here", "_law_lane", "_law_start", "_law_end"]
theorem sc__law_ends : FnScope N__law_ends ["_law_parts"] (defScope st__law_ends) := ⟨rfl, rfl, rfl, by decide +kernel, rfl, by decide +kernel, by decide +kernel⟩
theorem ok__law_ends (T : Top K mg) (F : Dn K mg "_law_ends" st__law_ends) : Cal P w K mg base 1 "_law_ends" spEndsL := by
  refine F.cal sc__law_ends (fun vs H Q E h => ?_) (fun _ _ _ _ _ _ us hl => match us, hl with | [_], _ => rfl) (fun f cdv A outer s H vs Q E hr h => ?_)
  · obtain ⟨q, G, posts, lanes, rfl, _⟩ := h
    rfl
  · obtain ⟨q, G, posts, lanes, rfl, sg, hparts, hnd, h8, k⟩ := h
    obtain ⟨a, b, rows, hq, hP, hb, hrows⟩ := hparts.ex
    refine ⟨_, (pss_cons (ps_set (i := 1) sc__law_ends.nd rfl (Or.inl rfl) pe_dnewK)
  (pss_cons (ps_for PassesOwn.never rfl (pi_list (pe_ix ix_list (pv 0) pe_int (fun _ _ => rfl))) (pg_tup rfl (pgs_cons (pg_name (i := 2) sc__law_ends.nd rfl (Or.inl rfl)) (pgs_cons (pg_name (i := 3) sc__law_ends.nd rfl (Or.inl rfl)) (pgs_cons (pg_name (i := 4) sc__law_ends.nd rfl (Or.inl rfl)) pgs_nil)))) (pss_one (ps_dput (hu1 hr) (pv 1) (pv 2) (pe_tup (pa_cons (pv 3) (pa_cons (pv 4) pa_nil))) rfl)))
  (pss_one (ps_ret (pv 1))))), ?_⟩
    walk_at "r"
    refine fun d hd => ?_
    have g := (Grow.refl sg (m := no)).newH (o := .dK []) hd
    have hdG := (Grow.refl sg (m := no)).free1 hd
    walk_at "r"
    refine r_ixL (j := 1) (g.at hq) rfl ?_
    refine ⟨b, rfl, ⟨_, .inl (.inl (g.at hb))⟩, ?_⟩
    refine for_it (walk_list (xs := rows)) (fun i σ H' => ∃ (G' : Hp) (kvs : List (Key × V)) (x y z : Option V), Grow no G H G' H' ∧ G' d = none ∧ H' d = some (.dK kvs) ∧ Seq2 (EndV G') kvs (lanes.take i) ∧ σ = [some (.ref q), some (.ref d), x, y, z]) ⟨G, [], _, _, _, g, hdG, upd_same, .nil, rfl⟩ (fun i σ H' _ ⟨G', kvs, x, y, z, g, h⟩ => .inl (.inl (g.at (g.gg _ _ hb)))) ?_ ?_
    · rintro i v σ H1' H1 hi ⟨G', kvs, x, y, z, g, hdG, hd1, hk, rfl⟩ ⟨rfl, hx⟩
      obtain ⟨e, he, t, rfl, ht⟩ := hrows.at hx
      refine r_gtup (g.at (g.gg _ _ ht)) rfl ?_
      walk_at "r"
      refine ⟨sz_lit rfl, fun t2 ht2 => ?_⟩
      walk_at "r"
      have hne : d ≠ t2 := ne_of_none hd1 ht2
      have hkl : kvs.length ≤ 8 := by rw [hk.1, List.length_take]; omega
      have hnew : nk e.1 ∉ kvs.map (·.1) := by
        rw [endv_keys hk]
        intro z
        have : (lanes.take i).map (fun e => nk e.1) = ((lanes.take i).map (·.1)).map nk := by rw [List.map_map]; rfl
        rw [this, nk_mem] at z
        have hnd2 := hnd
        rw [← List.take_append_drop i lanes, List.map_append, List.nodup_append] at hnd2
        refine hnd2.2.2 _ z e.1 ?_ rfl
        refine List.mem_map.mpr ⟨e, ?_, rfl⟩
        have hil := (List.getElem?_eq_some_iff.mp he)
        rw [List.drop_eq_getElem_cons hil.1, hil.2]
        exact List.mem_cons_self
      refine ⟨d, _, rfl, DPut.k (k := nk e.1) (by rw [upd_ne hne]; exact hd1) (small_lt (by omega)), ?_⟩
      rw [putK_new hnew]
      have sG := same_upd (o := .tup [.str e.2.1, .str e.2.2]) (g.free1 ht2)
      have hdG2 : upd G' t2 (.tup [.str e.2.1, .str e.2.2]) d = none := by rw [upd_ne hne]; exact hdG
      refine ⟨_, _, _, _, _, (g.newN ht2).mut hdG2 (.inl hd), hdG2, upd_same, ?_, rfl⟩
      rw [take_snoc he]
      exact (hk.mono fun _ _ => EndV.mono sG).snoc ⟨rfl, t2, rfl, upd_same⟩
    · rintro σ H1 ⟨G', kvs, x, y, z, g, hdG, hd1, hk, rfl⟩
      walk_at "r"
      refine k d kvs G' H1 g hd hdG hd1 ?_
      rw [List.take_of_length_le (by rw [hrows.1]; exact Nat.le_refl _)] at hk
      exact hk
abbrev st__law_lanes : Stmt := topS 82
abbrev N__law_lanes : List Str := ["_law_parts", "_law_row"]
theorem sc__law_lanes : FnScope N__law_lanes ["_law_parts"] (defScope st__law_lanes) := ⟨rfl, rfl, rfl, by decide +kernel, rfl, by decide +kernel, by decide +kernel⟩
theorem ok__law_lanes (T : Top K mg) (F : Dn K mg "_law_lanes" st__law_lanes) : Cal P w K mg base 1 "_law_lanes" spLanesL := by
  refine F.cal sc__law_lanes (fun vs H Q E h => ?_) (fun _ _ _ _ _ _ us hl => match us, hl with | [_], _ => rfl) (fun f cdv A outer s H vs Q E hr h => ?_)
  · obtain ⟨q, G, posts, lanes, rfl, _⟩ := h
    rfl
  · obtain ⟨q, G, posts, lanes, rfl, sg, hparts, h8, k⟩ := h
    obtain ⟨a, b, rows, hq, hP, hb, hrows⟩ := hparts.ex
    refine ⟨_, (pss_one (ps_ret (pe_lc (own := [("_law_row", 1)]) (g := (gName 1)) (tt := tYes) rfl sc__law_lanes.nd (pi_list (pe_ix ix_list (pv 0) pe_int (fun _ _ => rfl))) (blkOk_by (N := N__law_lanes) (sc := defScope st__law_lanes) (by decide +kernel)) (fun _ _ _ _ _ => (pg_name (i := 1) sc__law_lanes.nd rfl (Or.inl rfl))) (fun _ _ _ _ _ => pts_nil) (fun _ _ _ _ _ => (pe_ix (ix_tup : IxR _ (rIxT K)) (pv 1) pe_int (fun _ _ => rfl)))))), ?_⟩
    walk_at "r"
    refine r_ixL (j := 1) (sg _ _ hq) rfl ?_
    refine ⟨b, rfl, ⟨_, .inl (.inl (sg _ _ hb))⟩, fun Dl hD => ?_⟩
    refine lc_it (walk_list (xs := rows)) (fun i H' => Same H H' ∧ StrL H' Dl ((lanes.map (·.1)).take i)) ⟨same_upd hD, upd_same⟩ (fun _ _ _ h => .inl (.inl (h.1 _ _ (sg _ _ hb)))) ?_ ?_
    · rintro i v H1' H1 hi ⟨s1, hDl⟩ ⟨rfl, hx⟩
      obtain ⟨e, he, t, rfl, ht⟩ := hrows.at hx
      walk_at "r"
      refine ⟨rfl, ?_⟩
      walk_at "r"
      refine r_ixT (j := 0) (s1 _ _ (sg _ _ ht)) rfl ?_
      have ti : (lanes.map (·.1))[i]? = some e.1 := by rw [List.getElem?_map, he]; rfl
      refine ⟨_, hDl, ?_, s1.upd_mut hD, ?_⟩
      · rw [List.length_map, List.length_take, List.length_map]; exact small_lt (by omega)
      · show upd _ _ _ _ = _
        rw [upd_same, take_snoc ti, List.map_append]
        rfl
    · rintro H1 ⟨s1, hDl⟩
      rw [List.take_of_length_le (by rw [List.length_map, hrows.1]; exact Nat.le_refl _)] at hDl
      exact k Dl H1 s1 hD hDl
abbrev st__law_takes : Stmt := topS 88
abbrev N__law_takes : List Str := ["_law_atom_here", "_law_lane"]
theorem sc__law_takes : FnScope N__law_takes ["_law_atom_here", "_law_lane"] (defScope st__law_takes) := ⟨rfl, rfl, rfl, by decide +kernel, rfl, by decide +kernel, by decide +kernel⟩
theorem ok__law_takes (T : Top K mg) (F : Dn K mg "_law_takes" st__law_takes) : Cal P w K mg base 1 "_law_takes" spTakesL := by
  refine F.cal sc__law_takes (fun vs H Q E h => ?_) (fun _ _ _ _ _ _ us hl => match us, hl with | [_, _], _ => rfl) (fun f cdv A outer s H vs Q E hr h => ?_)
  · obtain ⟨v, x, l, rfl, _⟩ := h
    rfl
  · obtain ⟨v, x, l, rfl, ⟨a, c, rfl, ha, hc⟩, k⟩ := h
    refine ⟨_, (pss_one (ps_ret (pe_cmpR op_eq (pe_cmpR op_in_seq (pv 1) (pe_ix ix_tup (pv 0) pe_int (fun _ _ => rfl)) (by rfl)) (pe_cmpR op_eq (pe_ix ix_tup (pv 0) pe_int (fun _ _ => rfl)) pe_str (nomark _)) (nomark _)))), ?_⟩
    walk_at "r"
    refine r_ixT (j := 1) ha rfl ?_
    refine r_inS (ks := x.2) (.inl (.inl (.inl hc))) ?_
    walk_at "r"
    refine r_ixT (j := 0) ha rfl ?_
    walk_at "r"
    refine r_eq rfl ?_
    refine r_eq rfl ?_
    have e : decide (V.bl (decide (l ∈ x.2)) = V.bl (decide (V.str (kindS x.1) = V.str (Str.ofString "any")))) = atomT x l := by
      have e1 : decide (V.str (kindS x.1) = V.str (Str.ofString "any")) = x.1 := by
        cases x.1 with
        | true => exact decide_eq_true rfl
        | false => exact decide_eq_false (by decide)
      rw [e1]
      unfold atomT
      cases decide (l ∈ x.2) <;> cases x.1 <;> rfl
    rw [e]
    exact k
theorem filter_any {α : Type} (f : α → Bool) : ∀ l : List α, (!(l.filter f).isEmpty) = l.any f
  | [] => rfl
  | a :: l => by
    rw [List.filter_cons, List.any_cons]
    cases h : f a with
    | true => rfl
    | false => rw [if_neg (by simp)]; exact filter_any f l
abbrev st__law_done : Stmt := topS 90
abbrev N__law_done : List Str := ["_law_machine_here", "_law_open_atoms", "_law_atom_here"]
theorem sc__law_done : FnScope N__law_done ["_law_machine_here", "_law_open_atoms"] (defScope st__law_done) := ⟨rfl, rfl, rfl, by decide +kernel, rfl, by decide +kernel, by decide +kernel⟩
theorem ok__law_done (T : Top K mg) (F : Dn K mg "_law_done" st__law_done) : Cal P w K mg base 1 "_law_done" spDoneL := by
  refine F.cal sc__law_done (fun vs H Q E h => ?_) (fun _ _ _ _ _ _ us hl => match us, hl with | [_, _], _ => rfl) (fun f cdv A outer s H vs Q E hr h => ?_)
  · obtain ⟨a, t, m, ps, rfl, _⟩ := h
    rfl
  · obtain ⟨a, t, m, ps, rfl, hm, ht, hl, k⟩ := h
    obtain ⟨x, fi, la, pr, vs, ws, h1, h2, h3, h4, h5, h6, h7⟩ := hm.ex
    refine ⟨_, (pss_one (ps_ret (pe_cmpR (op_neD hr.units) (pe_lc (own := [("_law_atom_here", 2)]) (g := (gName 2)) rfl sc__law_done.nd (pi_tup (pv 1)) (blkOk_by (N := N__law_done) (sc := defScope st__law_done) (by decide +kernel)) (fun _ _ _ _ _ => (pg_name (i := 2) sc__law_done.nd rfl (Or.inl rfl))) (fun _ _ _ _ _ => (pts_one (pt_cmpR (op_in_seq : OpR _ _ (rIn K false)) (pv 2) (pe_ix (ix_list : IxR _ (rIxL K)) (pv 0) pe_int (fun _ _ => rfl)) (by rfl)))) (fun _ _ _ _ _ => (pv 2))) (pe_lst pa_nil) (nomark _)))), ?_⟩
    walk_at "r"
    refine ⟨t, rfl, ⟨_, .inl (.inl ht)⟩, fun Dl hD => ?_⟩
    refine lc_it (walk_tup (xs := ps.map natV)) (fun i H' => Same H H' ∧ NatL H' Dl ((ps.take i).filter fun p => decide (p ∈ m.lasts))) ⟨same_upd hD, upd_same⟩ (fun _ _ _ h => .inl (.inl (h.1 _ _ ht))) ?_ ?_
    · rintro i v H1' H1 hi ⟨s1, hDl⟩ ⟨rfl, hx⟩
      rw [List.getElem?_map] at hx
      obtain ⟨p, hp, rfl⟩ := Option.map_eq_some_iff.mp hx
      walk_at "r"
      refine ⟨rfl, ?_⟩
      walk_at "r"
      refine r_ixL (j := 2) (s1 _ _ h1) rfl ?_
      refine r_inN (.inl (.inl (.inl (s1 _ _ h5)))) ?_
      walk_at "r"
      rw [take_snoc hp, List.filter_append]
      by_cases c : p ∈ m.lasts
      · refine r_yes (decide_eq_true c) ?_
        walk_at "r"
        refine ⟨_, hDl, ?_, s1.upd_mut hD, ?_⟩
        · rw [List.length_map]
          exact small_lt (Nat.le_trans (List.length_filter_le _ _) (by rw [List.length_take]; omega))
        · show upd _ _ _ _ = _
          rw [upd_same, List.filter_cons_of_pos (by simp [c]), List.filter_nil, List.map_append]
          rfl
      · refine r_no (decide_eq_false c) ?_
        refine ⟨s1, ?_⟩
        rw [List.filter_cons_of_neg (by simp [c]), List.filter_nil, List.append_nil]
        exact hDl
    · rintro H1 ⟨s1, hDl⟩
      rw [List.take_of_length_le (by rw [List.length_map]; exact Nat.le_refl _)] at hDl
      walk_at "r"
      refine ⟨sz_lit rfl, fun q hq => ?_⟩
      refine r_neNilN (zs := ps.filter fun p => decide (p ∈ m.lasts)) (by show upd _ _ _ _ = _; rw [upd_ne (ne_of_none hDl hq)]; exact hDl) upd_same ?_
      rw [filter_any]
      have := k _ (s1.upd_new (o := .lst []) hq)
      exact this
abbrev st__law_led : Stmt := topS 89
abbrev N__law_led : List Str := ["_law_machine_here", "_law_open_atoms", "_law_lane", "_law_begins", "_law_found", "_law_k", "_law_atom_here", "_law_one", "_law_behind"]
theorem sc__law_led : FnScope N__law_led ["_law_machine_here", "_law_open_atoms", "_law_lane", "_law_begins"] (defScope st__law_led) := ⟨rfl, rfl, rfl, by decide +kernel, rfl, by decide +kernel, by decide +kernel⟩
theorem ok__law_led (T : Top K mg) (F : Dn K mg "_law_led" st__law_led) (c__law_takes : Cal P w K mg base 1 "_law_takes" spTakesL) : Cal P w K mg base 2 "_law_led" spLedL := by
  refine F.cal sc__law_led (fun vs H Q E h => ?_) (fun _ _ _ _ _ _ us hl => match us, hl with | [_, _, _, _], _ => rfl) (fun f cdv A outer s H vs Q E hr h => ?_)
  · obtain ⟨a, t, m, ps, l, rfl, _⟩ := h
    rfl
  · obtain ⟨a, t, m, ps, l, rfl, hm, ht, hl, hma, k⟩ := h
    obtain ⟨x, fi, la, pr, vs, ws, h1, h2, h3, h4, h5, h6, h7⟩ := hm.ex
    refine ⟨_, (pss_cons (ps_set (i := 4) sc__law_led.nd rfl (Or.inl rfl) (pe_lst pa_nil))
  (pss_cons (ps_for PassesOwn.never rfl (pi_enum rfl T.b_enumerate (pa_cons (pe_ix ix_list (pv 0) pe_int (fun _ _ => rfl)) pa_nil)) (pg_tup rfl (pgs_cons (pg_name (i := 5) sc__law_led.nd rfl (Or.inr rfl)) (pgs_cons (pg_name (i := 6) sc__law_led.nd rfl (Or.inl rfl)) pgs_nil))) (pss_cons (ps_set (i := 8) sc__law_led.nd rfl (Or.inl rfl) (pe_cmpR (op_neD hr.units) (pe_lc (own := [("_law_one", 7)]) (g := (gName 7)) rfl sc__law_led.nd (pi_tup (pv 1)) (blkOk_by (N := N__law_led) (sc := defScope st__law_led) (by decide +kernel)) (fun _ _ _ _ _ => (pg_name (i := 7) sc__law_led.nd rfl (Or.inl rfl))) (fun _ _ _ _ _ => (pts_one (pt_cmpR ((op_inD (hu65 hr)) : OpR _ _ (rInD K)) (pe_tup (pa_cons (pv 7) (pa_cons (pv 5) pa_nil))) (pe_ix (ix_list : IxR _ (rIxL K)) (pv 0) pe_int (fun _ _ => rfl)) (by rfl)))) (fun _ _ _ _ _ => (pv 7))) (pe_lst pa_nil) (nomark _)))
  (pss_one (ps_if (PW.pt (pw_and (pt_val (C8.pe_c c__law_takes hr (by omega) rfl (pa_cons (pv 6) (pa_cons (pv 2) pa_nil)))) (pw_and1 (PW.pt (pw_or (pt_val (pv 8)) (pw_or1 (PW.pt (pw_and (pt_val (pv 3)) (pw_and1 (pt_cmpR op_in_seq (pv 5) (pe_ix ix_list (pv 0) pe_int (fun _ _ => rfl)) (by rfl))))))))))) (pss_one (ps_expr (pe_bm PySem.F.plainAttrs_list PySem.F.slot_list_append PySem.F.type_list_append mt_append (pv 4) (pa_cons (pv 5) pa_nil)))) pss_nil))))
  (pss_one (ps_ret (pe_callTy call_tuple_of rfl T.b_tuple (by decide +kernel) (pa_cons (pv 4) pa_nil)))))), ?_⟩
    walk_at "r"
    refine ⟨sz_lit rfl, fun Lf hLf => ?_⟩
    walk_at "r"
    have s0 := same_upd (o := .lst []) hLf
    refine r_ixL (j := 0) (s0 _ _ h1) rfl ?_
    walk_at "r"
    refine ⟨x, vs, rfl, .inl (.inl (s0 _ _ h2)), ?_⟩
    let ff : Nat → Bool := fun k => (m.mach.first k || ps.any fun p => m.mach.foll p k) && m.mach.takes k l
    refine for_it (walk_enum (xs := vs)) (fun i σ H' => ∃ y5 y6 y7 y8 : Option V, Same H H' ∧ NatL H' Lf ((List.range i).filter ff) ∧ σ = [some (.ref a), some (.ref t), some (.str l), some (.bl true), some (.ref Lf), y5, y6, y7, y8]) ⟨_, _, _, _, s0, upd_same, rfl⟩ (fun i σ H' _ ⟨_, _, _, _, h, _⟩ => .inl (.inl (h _ _ h2))) ?_ ?_
    · rintro i v σ H1' H1 hi ⟨y5, y6, y7, y8, s1, hL, rfl⟩ ⟨T1, z, av, rfl, hT, rfl, hz, hav⟩
      cases Option.some.inj hz
      obtain ⟨at1, hat, hAt⟩ := h3.at hav
      have s2 : Same H (upd H1' T1 (.tup [.int (i : Nat), av])) := s1.upd_new hT
      have hL2 : NatL (upd H1' T1 (.tup [.int (i : Nat), av])) Lf ((List.range i).filter ff) := by show upd _ _ _ _ = _; rw [upd_ne (ne_of_none hL hT)]; exact hL
      refine r_gtup upd_same rfl ?_
      revert s2 hL2
      generalize upd H1' T1 (.tup [.int (i : Nat), av]) = H2
      intro s2 hL2
      walk_at "r"
      refine ⟨t, rfl, ⟨_, .inl (.inl (s2 _ _ ht))⟩, fun Dl hD => ?_⟩
      have hLD : Lf ≠ Dl := ne_of_none hL2 hD
      have hD0 : H Dl = none := by
        cases e : H Dl with
        | none => rfl
        | some u => rw [s2 _ _ e] at hD; cases hD
      refine lc_it (walk_tup (xs := ps.map natV)) (fun j H' => Same H H' ∧ NatL H' Lf ((List.range i).filter ff) ∧ NatL H' Dl ((ps.take j).filter fun p => m.mach.foll p i)) ⟨s2.upd_new hD, by show upd _ _ _ _ = _; rw [upd_ne hLD]; exact hL2, upd_same⟩ (fun _ _ _ h => .inl (.inl (h.1 _ _ ht))) ?_ ?_
      · rintro j v H1' H3 hj ⟨s3, hL3, hDl⟩ ⟨rfl, hx⟩
        rw [List.getElem?_map] at hx
        obtain ⟨p, hp, rfl⟩ := Option.map_eq_some_iff.mp hx
        walk_at "r"
        refine ⟨rfl, ?_⟩
        walk_at "r"
        refine ⟨sz_lit rfl, fun q hq => ?_⟩
        have s4 : Same H (upd H3 q (.tup [natV p, natV i])) := s3.upd_new hq
        have hL4 : NatL (upd H3 q (.tup [natV p, natV i])) Lf ((List.range i).filter ff) := by show upd _ _ _ _ = _; rw [upd_ne (ne_of_none hL3 hq)]; exact hL3
        have hDl4 : NatL (upd H3 q (.tup [natV p, natV i])) Dl ((ps.take j).filter fun p => m.mach.foll p i) := by show upd _ _ _ _ = _; rw [upd_ne (ne_of_none hDl hq)]; exact hDl
        have hpv : PairV (upd H3 q (.tup [natV p, natV i])) (.ref q) (p, i) := ⟨q, rfl, upd_same⟩
        revert s4 hL4 hDl4 hpv
        generalize upd H3 q (.tup [natV p, natV i]) = H4
        intro s4 hL4 hDl4 hpv
        walk_at "r"
        refine r_ixL (j := 3) (s4 _ _ h1) rfl ?_
        refine r_inPairs hpv (s4 _ _ h6) (h7.mono fun _ _ => PairV.mono s4) ?_
        walk_at "r"
        rw [take_snoc hp, List.filter_append]
        have ef : m.mach.foll p i = decide ((p, i) ∈ m.pairs) := rfl
        by_cases c : (p, i) ∈ m.pairs
        · refine r_yes (decide_eq_true c) ?_
          walk_at "r"
          refine ⟨_, hDl4, ?_, s4.upd_mut hD0, ?_, ?_⟩
          · rw [List.length_map]
            exact small_lt (Nat.le_trans (List.length_filter_le _ _) (by rw [List.length_take]; omega))
          · show upd _ _ _ _ = _
            rw [upd_ne hLD]; exact hL4
          · show upd _ _ _ _ = _
            rw [upd_same, List.filter_cons_of_pos (by rw [ef]; exact decide_eq_true c), List.filter_nil, List.map_append]
            rfl
        · refine r_no (decide_eq_false c) ?_
          refine ⟨s4, hL4, ?_⟩
          rw [List.filter_cons_of_neg (by rw [ef, decide_eq_false c]; decide), List.filter_nil, List.append_nil]
          exact hDl4
      · rintro H3 ⟨s3, hL3, hDl⟩
        rw [List.take_of_length_le (by rw [List.length_map]; exact Nat.le_refl _)] at hDl
        walk_at "r"
        refine ⟨sz_lit rfl, fun q hq => ?_⟩
        have s4 : Same H (upd H3 q (.lst [])) := s3.upd_new hq
        have hL4 : NatL (upd H3 q (.lst [])) Lf ((List.range i).filter ff) := by show upd _ _ _ _ = _; rw [upd_ne (ne_of_none hL3 hq)]; exact hL3
        refine r_neNilN (zs := ps.filter fun p => m.mach.foll p i) (by show upd _ _ _ _ = _; rw [upd_ne (ne_of_none hDl hq)]; exact hDl) upd_same ?_
        rw [filter_any]
        revert s4 hL4
        generalize upd H3 q (.lst []) = H4
        intro s4 hL4
        walk_at "r"
        refine ⟨av, at1, l, rfl, AtomL.mono s4 hAt, ?_⟩
        walk_at "r"
        have etk : m.mach.takes i l = atomT at1 l := ML.takes_at hat l
        have hrange : (List.range (i + 1)).filter ff = (List.range i).filter ff ++ [i].filter ff := by rw [List.range_succ, List.filter_append]
        have szr : (((List.range i).filter ff).map natV).length < sizeLine := by
          rw [List.length_map]
          have hv := h3.1
          exact small_lt (Nat.le_trans (List.length_filter_le _ _) (by rw [List.length_range]; omega))
        have yes : ff i = true → NatL (upd H4 Lf (.lst (((List.range i).filter ff).map natV ++ [natV i]))) Lf ((List.range (i + 1)).filter ff) := fun hb => by
          show upd _ _ _ _ = _
          rw [upd_same, hrange, List.filter_cons_of_pos hb, List.filter_nil, List.map_append]; rfl
        have nope : ff i = false → NatL H4 Lf ((List.range (i + 1)).filter ff) := fun hb => by
          rw [hrange, List.filter_cons_of_neg (by rw [hb]; decide), List.filter_nil, List.append_nil]
          exact hL4
        have eff : ff i = ((decide (i ∈ m.firsts) || ps.any fun p => m.mach.foll p i) && atomT at1 l) := by
          show ((m.mach.first i || _) && m.mach.takes i l) = _
          rw [etk]; rfl
        by_cases c1 : atomT at1 l = true
        · refine r_yes c1 ?_
          walk_at "r"
          by_cases c2 : (ps.any fun p => m.mach.foll p i) = true
          · refine r_yes c2 ?_
            walk_at "r"
            refine r_tyL hL4 ?_
            walk_at "r"
            refine r_app hL4 szr ?_
            exact ⟨_, _, _, _, s4.upd_mut hLf, yes (by rw [eff, c1, c2]; simp), rfl⟩
          · refine r_no (eq_false_of_ne_true c2) ?_
            walk_at "r"
            refine r_ixL (j := 1) (s4 _ _ h1) rfl ?_
            refine r_inN (.inl (.inl (.inl (s4 _ _ h4)))) ?_
            walk_at "r"
            by_cases c3 : i ∈ m.firsts
            · refine r_yes (decide_eq_true c3) ?_
              walk_at "r"
              refine r_tyL hL4 ?_
              walk_at "r"
              refine r_app hL4 szr ?_
              exact ⟨_, _, _, _, s4.upd_mut hLf, yes (by rw [eff, c1, decide_eq_true c3]; simp), rfl⟩
            · refine r_no (decide_eq_false c3) ?_
              walk_at "r"
              exact ⟨_, _, _, _, s4, nope (by rw [eff, decide_eq_false c3, eq_false_of_ne_true c2]; rfl), rfl⟩
        · refine r_no (eq_false_of_ne_true c1) ?_
          walk_at "r"
          exact ⟨_, _, _, _, s4, nope (by rw [eff, eq_false_of_ne_true c1, Bool.and_false]), rfl⟩
    · rintro σ H1 ⟨y5, y6, y7, y8, s1, hL, rfl⟩
      walk_at "r"
      refine ⟨Lf, _, rfl, .inl ⟨.inl (.inl hL), fun q hq => ?_⟩⟩
      refine k q _ (s1.upd_new hq) ?_ ?_
      · cases e : H q with
        | none => rfl
        | some u => rw [s1 _ _ e] at hq; cases hq
      · show upd _ _ _ _ = _
        rw [upd_same]
        show _ = some (HO.tup ((((List.range m.atoms.length).filter ff)).map natV))
        rw [← h3.1]
end
end K48
/-! ## KD7 -/
set_option maxHeartbeats 4000000
namespace K48
open PySem L2
local macro_rules | `(tactic| walk_at "r1") => `(tactic| first
  | with_reducible refine r_seq ?_ | with_reducible refine r_asg ?_ | with_reducible refine r_ret ?_ | with_reducible refine r_drop ?_ | with_reducible refine r_if ?_ | with_reducible refine r_next ?_
  | with_reducible refine r_name ?_ | with_reducible refine r_c ?_ | ((with_reducible show tVar _ _ _ _); refine r_var rfl ?_) | with_reducible refine r_op ?_ | with_reducible refine r_un ?_
  | with_reducible refine r_i0 ?_ | with_reducible refine r_test ?_ | with_reducible refine r_tB ?_ | with_reducible refine r_bl ?_ | with_reducible refine r_and ?_ | with_reducible refine r_or ?_
  | with_reducible refine r_not ?_ | with_reducible refine r_ifE ?_ | with_reducible refine r_cons ?_ | with_reducible refine r_nil ?_ | with_reducible refine r_cb ?_ | with_reducible refine r_call ?_
  | with_reducible refine r_lstG ?_ | with_reducible refine r_tupG ?_ | with_reducible refine r_sl ?_ | with_reducible refine r_noP ?_ | with_reducible refine r_part ?_ | with_reducible refine r_exI ?_
  | with_reducible refine r_tr ?_ | with_reducible refine r_fa ?_ | with_reducible refine r_for ?_ | with_reducible refine r_iList ?_ | with_reducible refine r_iTup ?_ | with_reducible refine r_iStr ?_
  | with_reducible refine r_iR1 ?_ | with_reducible refine r_iR2 ?_ | with_reducible refine r_lc ?_ | with_reducible refine r_nt ?_ | with_reducible refine r_nf ?_ | with_reducible refine r_orV ?_ | with_reducible refine r_andV ?_ | with_reducible refine r_yesT ?_ | with_reducible refine r_gsub ?_ | with_reducible refine r_gcons ?_ | with_reducible refine r_gnil ?_ | with_reducible refine r_bm ?_ | with_reducible refine r_bm0 ?_
  | with_reducible refine r_fldG ?_ | with_reducible refine r_sfldG ?_ | with_reducible refine r_meth ?_ | with_reducible refine r_make ?_ | with_reducible refine r_dget ?_ | with_reducible refine r_din ?_ | with_reducible refine r_dnin ?_ | with_reducible refine r_dput ?_
  | with_reducible refine r_dgetN ?_ | with_reducible refine r_dinN ?_ | with_reducible refine r_dninN ?_ | with_reducible refine r_dputN ?_ | ((with_reducible show tAug _ _ _ _ _ _); refine r_aug rfl ?_) | with_reducible refine r_par ?_ | with_reducible refine r_neg ?_ | with_reducible refine r_iEnum ?_ | with_reducible refine r_iZip ?_ | with_reducible refine r_iZipA ?_)
local macro_rules | `(tactic| walk_at "r") => `(tactic| repeat walk_at "r1")

def NamesAt (G : Hp) (s : Bool) (b : Addr) (ns : List Str) : Prop := G b = some (if s then .lst (ns.map V.str) else .tup (ns.map V.str))
def TreeAt (G : Hp) (s : Bool) : PTree Str → V → Prop
  | .any ns, v => ∃ a b, v = .ref a ∧ G a = some (.tup [.str "any", .ref b]) ∧ NamesAt G s b ns
  | .non ns, v => ∃ a b, v = .ref a ∧ G a = some (.tup [.str "none", .ref b]) ∧ NamesAt G s b ns
  | .rep t, v => ∃ a x, v = .ref a ∧ G a = some (.tup [.str "repeat", x]) ∧ TreeAt G s t x
  | .opt t, v => ∃ a x, v = .ref a ∧ G a = some (.tup [.str "option", x]) ∧ TreeAt G s t x
  | .either t u, v => ∃ a x y, v = .ref a ∧ G a = some (.tup [.str "either", x, y]) ∧ TreeAt G s t x ∧ TreeAt G s u y
  | .join t u, v => ∃ a x y, v = .ref a ∧ G a = some (.tup [.str "join", x, y]) ∧ TreeAt G s t x ∧ TreeAt G s u y
theorem TreeAt.mono {G G' : Hp} {b : Bool} (s : Same G G') : ∀ {t : PTree Str} {v : V}, TreeAt G b t v → TreeAt G' b t v
  | .any ns, v, ⟨a, c, e, h1, h2⟩ => ⟨a, c, e, s _ _ h1, s _ _ h2⟩
  | .non ns, v, ⟨a, c, e, h1, h2⟩ => ⟨a, c, e, s _ _ h1, s _ _ h2⟩
  | .rep t, v, ⟨a, x, e, h1, h2⟩ => ⟨a, x, e, s _ _ h1, h2.mono s⟩
  | .opt t, v, ⟨a, x, e, h1, h2⟩ => ⟨a, x, e, s _ _ h1, h2.mono s⟩
  | .either t u, v, ⟨a, x, y, e, h1, h2, h3⟩ => ⟨a, x, y, e, s _ _ h1, h2.mono s, h3.mono s⟩
  | .join t u, v, ⟨a, x, y, e, h1, h2, h3⟩ => ⟨a, x, y, e, s _ _ h1, h2.mono s, h3.mono s⟩
def oneS (b : Bool) : Str := if b then "repeat" else "option"
def twoS (b : Bool) : Str := if b then "either" else "join"
def PTree.atom (b : Bool) (ns : List Str) : PTree Str := if b then .any ns else .non ns
def PTree.one (b : Bool) (t : PTree Str) : PTree Str := if b then .rep t else .opt t
def PTree.two (b : Bool) (t u : PTree Str) : PTree Str := if b then .either t u else .join t u
theorem TreeAt.cases {G : Hp} {s : Bool} {t : PTree Str} {v : V} (h : TreeAt G s t v) :
    (∃ b ns a c, v = .ref a ∧ G a = some (.tup [.str (kindS b), .ref c]) ∧ NamesAt G s c ns ∧ t = .atom b ns) ∨
    (∃ b t1 a x, v = .ref a ∧ G a = some (.tup [.str (oneS b), x]) ∧ TreeAt G s t1 x ∧ t = .one b t1) ∨
    (∃ b t1 t2 a x y, v = .ref a ∧ G a = some (.tup [.str (twoS b), x, y]) ∧ TreeAt G s t1 x ∧ TreeAt G s t2 y ∧ t = .two b t1 t2) := by
  cases t with
  | any ns => obtain ⟨a, b, e, h1, h2⟩ := h; exact .inl ⟨true, ns, a, b, e, h1, h2, rfl⟩
  | non ns => obtain ⟨a, b, e, h1, h2⟩ := h; exact .inl ⟨false, ns, a, b, e, h1, h2, rfl⟩
  | rep t => obtain ⟨a, x, e, h1, h2⟩ := h; exact .inr (.inl ⟨true, t, a, x, e, h1, h2, rfl⟩)
  | opt t => obtain ⟨a, x, e, h1, h2⟩ := h; exact .inr (.inl ⟨false, t, a, x, e, h1, h2, rfl⟩)
  | either t u => obtain ⟨a, x, y, e, h1, h2, h3⟩ := h; exact .inr (.inr ⟨true, t, u, a, x, y, e, h1, h2, h3, rfl⟩)
  | join t u => obtain ⟨a, x, y, e, h1, h2, h3⟩ := h; exact .inr (.inr ⟨false, t, u, a, x, y, e, h1, h2, h3, rfl⟩)
theorem PTree.leaves_atom (b : Bool) (ns : List Str) : (PTree.atom b ns).leaves = 1 ∧ (PTree.atom b ns).depth = 0 := by cases b <;> exact ⟨rfl, rfl⟩
theorem PTree.leaves_one (b : Bool) (t : PTree Str) : (PTree.one b t).leaves = t.leaves ∧ (PTree.one b t).depth = t.depth + 1 := by cases b <;> exact ⟨rfl, rfl⟩
theorem PTree.leaves_two (b : Bool) (t u : PTree Str) : (PTree.two b t u).leaves = t.leaves + u.leaves ∧ (PTree.two b t u).depth = max t.depth u.depth + 1 := by cases b <;> exact ⟨rfl, rfl⟩
theorem lawT_sizes : ∀ (t : PTree Str) (k : Nat), (lawT t k).firsts.length ≤ t.leaves ∧ (lawT t k).lasts.length ≤ t.leaves
  | .any _, _ => ⟨Nat.le_refl _, Nat.le_refl _⟩
  | .non _, _ => ⟨Nat.le_refl _, Nat.le_refl _⟩
  | .rep t, k => lawT_sizes t k
  | .opt t, k => lawT_sizes t k
  | .either a b, k => by
    obtain ⟨h1, h2⟩ := lawT_sizes a k
    obtain ⟨g1, g2⟩ := lawT_sizes b (k + (lawT a k).atoms.length)
    simp only [lawT, List.length_append, PTree.leaves]
    omega
  | .join a b, k => by
    obtain ⟨h1, h2⟩ := lawT_sizes a k
    obtain ⟨g1, g2⟩ := lawT_sizes b (k + (lawT a k).atoms.length)
    have f1 := List.length_filter_le (fun _ => (lawT a k).opt) (lawT b (k + (lawT a k).atoms.length)).firsts
    have f2 := List.length_filter_le (fun _ => (lawT b (k + (lawT a k).atoms.length)).opt) (lawT a k).lasts
    simp only [lawT, List.length_append, PTree.leaves]
    omega
theorem pow_max (a b : Nat) : 2 ^ a ≤ 2 ^ max a b ∧ 2 ^ b ≤ 2 ^ max a b := ⟨Nat.pow_le_pow_right (by decide) (Nat.le_max_left _ _), Nat.pow_le_pow_right (by decide) (Nat.le_max_right _ _)⟩
theorem lawT_pairs : ∀ (t : PTree Str) (k : Nat), t.leaves ≤ 20 → (lawT t k).pairs.length + 400 ≤ 2 ^ t.depth * 400
  | .any _, _, _ => by simp [lawT, PTree.depth]
  | .non _, _, _ => by simp [lawT, PTree.depth]
  | .rep t, k, h => by
    have h : t.leaves ≤ 20 := h
    have ih := lawT_pairs t k h
    obtain ⟨h1, h2⟩ := lawT_sizes t k
    have c : (lawT t k).lasts.length * (lawT t k).firsts.length ≤ 20 * 20 := Nat.mul_le_mul (by omega) (by omega)
    simp only [lawT, List.length_append, crossedL_len, PTree.depth, Nat.pow_succ]
    omega
  | .opt t, k, h => by
    have ih := lawT_pairs t k h
    simp only [lawT, PTree.depth, Nat.pow_succ]
    omega
  | .either a b, k, h => by
    have h : a.leaves + b.leaves ≤ 20 := h
    have i1 := lawT_pairs a k (by omega)
    have i2 := lawT_pairs b (k + (lawT a k).atoms.length) (by omega)
    have := pow_max a.depth b.depth
    simp only [lawT, List.length_append, PTree.depth, Nat.pow_succ]
    omega
  | .join a b, k, h => by
    have h : a.leaves + b.leaves ≤ 20 := h
    have i1 := lawT_pairs a k (by omega)
    have i2 := lawT_pairs b (k + (lawT a k).atoms.length) (by omega)
    obtain ⟨h1, h2⟩ := lawT_sizes a k
    obtain ⟨g1, g2⟩ := lawT_sizes b (k + (lawT a k).atoms.length)
    have c : (lawT a k).lasts.length * (lawT b (k + (lawT a k).atoms.length)).firsts.length ≤ 20 * 20 := Nat.mul_le_mul (by omega) (by omega)
    have := pow_max a.depth b.depth
    simp only [lawT, List.length_append, crossedL_len, PTree.depth, Nat.pow_succ]
    omega
theorem lawT_pairs6 {t : PTree Str} {k : Nat} (h : t.leaves ≤ 20) (hd : t.depth ≤ 6) : (lawT t k).pairs.length ≤ 25600 := by
  have h1 := lawT_pairs t k h
  have h2 : 2 ^ t.depth ≤ 2 ^ 6 := Nat.pow_le_pow_right (by decide) hd
  omega
def spCrossed : Sp := fun vs H Q _ => ∃ (a b : Addr) (xs ys : List Nat) (G : Hp), vs = [.ref a, .ref b] ∧ Same G H ∧ NatL G a xs ∧ NatL G b ys ∧ xs.length ≤ 100 ∧ ys.length ≤ 100 ∧
  ∀ (q : Addr) (ws : List V) (G' H' : Hp), Grow no G H G' H' → G' q = some (.lst ws) → Seq2 (PairV G') ws (crossedL xs ys) → Q (.ref q) H'
def spMachL (D : Nat) : Sp := fun vs H Q _ => ∃ (v : V) (k : Nat) (t : PTree Str) (G : Hp), vs = [v, .int (k : Nat)] ∧ Same G H ∧ TreeAt G true t v ∧ t.depth < D ∧ t.depth ≤ 6 ∧ t.leaves ≤ 20 ∧
  ∀ (q : Addr) (G' H' : Hp), Grow no G H G' H' → MachL G' q (lawT t k) → Q (.ref q) H'
section
variable {P : Program} {w : World} {K : PySem.W.Frag} {mg : Str → Option Value} {base : Heap}
theorem crossedL_snoc (a : List Nat) (x : Nat) (b : List Nat) : crossedL (a ++ [x]) b = crossedL a b ++ b.map fun y => (x, y) := by
  unfold crossedL
  rw [List.flatMap_append]
  simp
abbrev st__law_crossed : Stmt := topS 87
abbrev N__law_crossed : List Str := ["_law_one", "_law_two", "_law_pairs", "_law_first", "_law_second"]
theorem sc__law_crossed : FnScope N__law_crossed ["_law_one", "_law_two"] (defScope st__law_crossed) := ⟨rfl, rfl, rfl, by decide +kernel, rfl, by decide +kernel, by decide +kernel⟩
theorem ok__law_crossed (T : Top K mg) (F : Dn K mg "_law_crossed" st__law_crossed) : Cal P w K mg base 1 "_law_crossed" spCrossed := by
  refine F.cal sc__law_crossed (fun vs H Q E h => ?_) (fun _ _ _ _ _ _ us hl => match us, hl with | [_, _], _ => rfl) (fun f cdv A outer s H vs Q E hr h => ?_)
  · obtain ⟨a, b, xs, ys, G, rfl, _⟩ := h
    rfl
  · obtain ⟨a, b, xs, ys, G, rfl, sg, ha, hb, hx, hy, k⟩ := h
    refine ⟨_, (pss_cons (ps_set (i := 2) sc__law_crossed.nd rfl (Or.inl rfl) (pe_lst pa_nil))
  (pss_cons (ps_for PassesOwn.never rfl (pi_list (pv 0)) (pg_name (i := 3) sc__law_crossed.nd rfl (Or.inr rfl)) (pss_one (ps_set (i := 2) sc__law_crossed.nd rfl (Or.inl rfl) (pe_op op_cat (pv 2) (pe_lc (own := [("_law_second", 4)]) (g := (gName 4)) (tt := tYes) rfl sc__law_crossed.nd (pi_list (pv 1)) (blkOk_by (N := N__law_crossed) (sc := defScope st__law_crossed) (by decide +kernel)) (fun _ _ _ _ _ => (pg_name (i := 4) sc__law_crossed.nd rfl (Or.inl rfl))) (fun _ _ _ _ _ => pts_nil) (fun _ _ _ _ _ => (pe_tup (pa_cons (pv 3) (pa_cons (pv 4) pa_nil)))))))))
  (pss_one (ps_ret (pv 2))))), ?_⟩
    walk_at "r"
    refine e_lst sg rfl fun l G1 H1 g hl _ => ?_
    walk_at "r"
    refine ⟨a, rfl, ⟨_, .inl (.inl (g.at (g.gg _ _ ha)))⟩, ?_⟩
    refine for_it (walk_list (xs := xs.map natV)) (fun i σ H' => ∃ (l : Addr) (G' : Hp) (ws : List V) (y3 y4 : Option V), Grow no G H G' H' ∧ G' l = some (.lst ws) ∧ Seq2 (PairV G') ws (crossedL (xs.take i) ys) ∧ σ = [some (.ref a), some (.ref b), some (.ref l), y3, y4])
      ⟨l, G1, [], _, _, g, hl, .nil, rfl⟩ (fun i σ H' _ ⟨_, _, _, _, _, g, _⟩ => .inl (.inl (g.at (g.gg _ _ ha)))) ?_ ?_
    · rintro i v σ H2' H2 hi ⟨l, G2, ws, y3, y4, g, hl, hw, rfl⟩ ⟨rfl, hv⟩
      rw [List.getElem?_map] at hv
      obtain ⟨x, hxi, rfl⟩ := Option.map_eq_some_iff.mp hv
      walk_at "r"
      refine ⟨b, rfl, ⟨_, .inl (.inl (g.at (g.gg _ _ hb)))⟩, fun Dl hD => ?_⟩
      have hDG := g.free1 hD
      have hD0 := g.freeN hD
      have hlD : l ≠ Dl := fun z => by rw [← z, hl] at hDG; cases hDG
      refine lc_it (walk_list (xs := ys.map natV)) (fun j H' => ∃ (G' : Hp) (us : List V), Grow no G2 H2 G' H' ∧ G' Dl = none ∧ H' Dl = some (.lst us) ∧ Seq2 (PairV G') us ((ys.take j).map fun y => (x, y))) ⟨G2, [], (Grow.refl g.gh).newH hD, hDG, upd_same, .nil⟩ (fun _ _ _ ⟨_, _, e, _⟩ => .inl (.inl (e.at (e.gg _ _ (g.gg _ _ hb))))) ?_ ?_
      · rintro j v H3' H3 hj ⟨G3, us, e, hDG3, hD3, hu⟩ ⟨rfl, hv⟩
        rw [List.getElem?_map] at hv
        obtain ⟨y, hyj, rfl⟩ := Option.map_eq_some_iff.mp hv
        walk_at "r"
        refine ⟨rfl, ?_⟩
        walk_at "r"
        refine e_tup e.gh rfl fun t G4 H4 e4 ht ht0 => ?_
        have hD4 := e4.same _ _ hD3
        have hDG4 := e4.new Dl hDG3 (by rw [hD3]; intro z; cases z)
        refine ⟨_, hD4, ?_, G4, us ++ [.ref t], (e.trans e4).mut hDG4 (.inl hD), hDG4, upd_same, ?_⟩
        · rw [hu.1, List.length_map, List.length_take]; exact small_lt (by omega)
        · rw [take_snoc hyj, List.map_append]
          exact (hu.mono fun _ _ => PairV.mono e4.gg).snoc ⟨t, rfl, ht⟩
      · rintro H3 ⟨G3, us, e, hDG3, hD3, hu⟩
        rw [List.take_of_length_le (by rw [List.length_map]; exact Nat.le_refl _)] at hu
        have e := e.tell hD3 hD
        have sG : Same G3 (upd G3 Dl (.lst us)) := same_upd hDG3
        have hu := hu.mono fun _ _ => PairV.mono sG
        refine e_cat e.gh (e.gg _ _ hl) upd_same ?_ fun q G4 H4 e4 hq _ => ?_
        · rw [hw.1, hu.1, crossedL_len, List.length_map, List.length_take]
          have : min i xs.length * ys.length ≤ 100 * 100 := Nat.mul_le_mul (by omega) hy
          omega
        walk_at "r"
        refine ⟨q, G4, _, _, _, (g.trans e).trans e4, hq, ?_, rfl⟩
        rw [take_snoc hxi, crossedL_snoc]
        exact (hw.mono fun _ _ h => PairV.mono e4.gg (PairV.mono e.gg h)).app (hu.mono fun _ _ => PairV.mono e4.gg)
    · rintro σ H2 ⟨l, G2, ws, y3, y4, g, hl, hw, rfl⟩
      walk_at "r"
      rw [List.take_of_length_le (by rw [List.length_map]; exact Nat.le_refl _)] at hw
      exact k l ws G2 H2 g hl hw
abbrev st__law_machine : Stmt := topS 86
abbrev N__law_machine : List Str := ["_law_tree_here", "_law_start", "_law_one", "_law_pairs", "_law_two", "_law_atom_here", "_law_firsts", "_law_lasts"]
theorem sc__law_machine : FnScope N__law_machine ["_law_tree_here", "_law_start"] (defScope st__law_machine) := ⟨rfl, rfl, rfl, by decide +kernel, rfl, by decide +kernel, by decide +kernel⟩
theorem ok__law_machine (T : Top K mg) (F : Dn K mg "_law_machine" st__law_machine) (c__law_crossed : Cal P w K mg base 1 "_law_crossed" spCrossed) : ∀ D, Cal P w K mg base (D + 2) "_law_machine" (spMachL D) := by
  intro D
  induction D with
  | zero =>
    refine F.cal sc__law_machine (fun vs H Q E h => ?_) (fun _ _ _ _ _ _ us hl => match us, hl with | [_, _], _ => rfl) (fun f cdv A outer s H vs Q E hr h => ?_)
    · obtain ⟨v, k, t, G, rfl, _⟩ := h
      rfl
    · obtain ⟨v, k, t, G, rfl, _, _, h, _⟩ := h
      exact absurd h (Nat.not_lt_zero _)
  | succ D c__law_machine =>
    refine F.cal sc__law_machine (fun vs H Q E h => ?_) (fun _ _ _ _ _ _ us hl => match us, hl with | [_, _], _ => rfl) (fun f cdv A outer s H vs Q E hr h => ?_)
    · obtain ⟨v, k, t, G, rfl, _⟩ := h
      rfl
    · obtain ⟨v, k, t, G, rfl, sg, ht, hd, hd6, hl, q⟩ := h
      have g0 := Grow.refl sg (m := no)
      rcases ht.cases with ⟨b, ns, a, c, rfl, ha, hc, rfl⟩ | ⟨b, t1, a, x, rfl, ha, hx, rfl⟩ | ⟨b, t1, t2, a, x, y, rfl, ha, hx, hy, rfl⟩
      · refine ⟨_, (pss_cons (ps_if (pt_cmpR op_in_seq (pe_ix ix_tup (pv 0) pe_int (fun _ _ => rfl)) (pe_tup (pa_cons pe_str (pa_cons pe_str pa_nil))) (by rfl)) (pss_one (ps_ret (pe_lst (pa_cons (pe_lst (pa_cons (pe_tup (pa_cons (pe_ix ix_tup (pv 0) pe_int (fun _ _ => rfl)) (pa_cons (pe_ix ix_tup (pv 0) pe_int (fun _ _ => rfl)) pa_nil))) pa_nil)) (pa_cons (pe_lst (pa_cons (pv 1) pa_nil)) (pa_cons (pe_lst (pa_cons (pv 1) pa_nil)) (pa_cons (pe_lst pa_nil) (pa_cons pe_bl pa_nil)))))))) pss_nil)
  (pss_cons (ps_set (i := 2) sc__law_machine.nd rfl (Or.inr rfl) (C8.pe_c c__law_machine hr (by omega) rfl (pa_cons (pe_ix ix_tup (pv 0) pe_int (fun _ _ => rfl)) (pa_cons (pv 1) pa_nil))))
  (pss_cons (ps_if (pt_cmpR op_in_seq (pe_ix ix_tup (pv 0) pe_int (fun _ _ => rfl)) (pe_tup (pa_cons pe_str (pa_cons pe_str pa_nil))) (by rfl)) (pss_cons (ps_set (i := 3) sc__law_machine.nd rfl (Or.inl rfl) (pe_ix ix_list (pv 2) pe_int (fun _ _ => rfl)))
  (pss_cons (ps_if (pt_cmpR op_eq (pe_ix ix_tup (pv 0) pe_int (fun _ _ => rfl)) pe_str (nomark _)) (pss_one (ps_set (i := 3) sc__law_machine.nd rfl (Or.inl rfl) (pe_op op_cat (pv 3) (C8.pe_c c__law_crossed hr (by omega) rfl (pa_cons (pe_ix ix_list (pv 2) pe_int (fun _ _ => rfl)) (pa_cons (pe_ix ix_list (pv 2) pe_int (fun _ _ => rfl)) pa_nil)))))) pss_nil)
  (pss_one (ps_ret (pe_lst (pa_cons (pe_ix ix_list (pv 2) pe_int (fun _ _ => rfl)) (pa_cons (pe_ix ix_list (pv 2) pe_int (fun _ _ => rfl)) (pa_cons (pe_ix ix_list (pv 2) pe_int (fun _ _ => rfl)) (pa_cons (pv 3) (pa_cons pe_bl pa_nil)))))))))) pss_nil)
  (pss_cons (ps_set (i := 4) sc__law_machine.nd rfl (Or.inr rfl) (C8.pe_c c__law_machine hr (by omega) rfl (pa_cons (pe_ix ix_tup (pv 0) pe_int (fun _ _ => rfl)) (pa_cons (pe_op op_add (pv 1) (pe_callB (call_len_seq : CallR _ _ (rLenQ K)) rfl T.b_len (by decide +kernel) (pa_cons (pe_ix ix_list (pv 2) pe_int (fun _ _ => rfl)) pa_nil))) pa_nil))))
  (pss_cons (ps_if (pt_cmpR op_eq (pe_ix ix_tup (pv 0) pe_int (fun _ _ => rfl)) pe_str (nomark _)) (pss_one (ps_ret (pe_lst (pa_cons (pe_op op_cat (pe_ix ix_list (pv 2) pe_int (fun _ _ => rfl)) (pe_ix ix_list (pv 4) pe_int (fun _ _ => rfl))) (pa_cons (pe_op op_cat (pe_ix ix_list (pv 2) pe_int (fun _ _ => rfl)) (pe_ix ix_list (pv 4) pe_int (fun _ _ => rfl))) (pa_cons (pe_op op_cat (pe_ix ix_list (pv 2) pe_int (fun _ _ => rfl)) (pe_ix ix_list (pv 4) pe_int (fun _ _ => rfl))) (pa_cons (pe_op op_cat (pe_ix ix_list (pv 2) pe_int (fun _ _ => rfl)) (pe_ix ix_list (pv 4) pe_int (fun _ _ => rfl))) (pa_cons (pe_or (pe_ix ix_list (pv 2) pe_int (fun _ _ => rfl)) (pe_one (pe_ix ix_list (pv 4) pe_int (fun _ _ => rfl)))) pa_nil)))))))) pss_nil)
  (pss_cons (ps_set (i := 6) sc__law_machine.nd rfl (Or.inl rfl) (pe_op op_cat (pe_ix ix_list (pv 2) pe_int (fun _ _ => rfl)) (pe_lc (own := [("_law_atom_here", 5)]) (g := (gName 5)) rfl sc__law_machine.nd (pi_list (pe_ix ix_list (pv 4) pe_int (fun _ _ => rfl))) (blkOk_by (N := N__law_machine) (sc := defScope st__law_machine) (by decide +kernel)) (fun _ _ _ _ _ => (pg_name (i := 5) sc__law_machine.nd rfl (Or.inl rfl))) (fun _ _ _ _ _ => (pts_one (pt_val (pe_ix (ix_list : IxR _ (rIxL K)) (pv 2) pe_int (fun _ _ => rfl))))) (fun _ _ _ _ _ => (pv 5)))))
  (pss_cons (ps_set (i := 7) sc__law_machine.nd rfl (Or.inl rfl) (pe_op op_cat (pe_ix ix_list (pv 4) pe_int (fun _ _ => rfl)) (pe_lc (own := [("_law_atom_here", 5)]) (g := (gName 5)) rfl sc__law_machine.nd (pi_list (pe_ix ix_list (pv 2) pe_int (fun _ _ => rfl))) (blkOk_by (N := N__law_machine) (sc := defScope st__law_machine) (by decide +kernel)) (fun _ _ _ _ _ => (pg_name (i := 5) sc__law_machine.nd rfl (Or.inl rfl))) (fun _ _ _ _ _ => (pts_one (pt_val (pe_ix (ix_list : IxR _ (rIxL K)) (pv 4) pe_int (fun _ _ => rfl))))) (fun _ _ _ _ _ => (pv 5)))))
  (pss_one (ps_ret (pe_lst (pa_cons (pe_op op_cat (pe_ix ix_list (pv 2) pe_int (fun _ _ => rfl)) (pe_ix ix_list (pv 4) pe_int (fun _ _ => rfl))) (pa_cons (pv 6) (pa_cons (pv 7) (pa_cons (pe_op op_cat (pe_op op_cat (pe_ix ix_list (pv 2) pe_int (fun _ _ => rfl)) (pe_ix ix_list (pv 4) pe_int (fun _ _ => rfl))) (C8.pe_c c__law_crossed hr (by omega) rfl (pa_cons (pe_ix ix_list (pv 2) pe_int (fun _ _ => rfl)) (pa_cons (pe_ix ix_list (pv 4) pe_int (fun _ _ => rfl)) pa_nil)))) (pa_cons (pe_and (pe_ix ix_list (pv 2) pe_int (fun _ _ => rfl)) (pe_one (pe_ix ix_list (pv 4) pe_int (fun _ _ => rfl)))) pa_nil))))))))))))))), ?_⟩
        walk_at "r"
        refine r_ixT (j := 0) (g0.at ha) rfl ?_
        walk_at "r"
        refine e_tup g0.gh rfl fun p1 G1 H1 e1 hp1 _ => ?_
        have g := g0.trans e1
        refine r_inS (ks := ["any", "none"]) (.inr (.inl (.inl (g.at hp1)))) ?_
        walk_at "r"
        refine r_yes (by cases b <;> decide) ?_
        walk_at "r"
        refine r_ixT (j := 0) (g.at (g.gg _ _ ha)) rfl ?_
        walk_at "r"
        refine r_ixT (j := 1) (g.at (g.gg _ _ ha)) rfl ?_
        walk_at "r"
        refine e_tup g.gh rfl fun p2 G2 H2 e2 hp2 _ => ?_
        have g := g.trans e2
        walk_at "r"
        refine e_lst g.gh rfl fun p3 G3 H3 e3 hp3 _ => ?_
        have g := g.trans e3
        walk_at "r"
        refine e_lst g.gh rfl fun p4 G4 H4 e4 hp4 _ => ?_
        have g := g.trans e4
        walk_at "r"
        refine e_lst g.gh rfl fun p5 G5 H5 e5 hp5 _ => ?_
        have g := g.trans e5
        walk_at "r"
        refine e_lst g.gh rfl fun p6 G6 H6 e6 hp6 _ => ?_
        have g := g.trans e6
        walk_at "r"
        refine e_lst g.gh rfl fun p7 G7 H7 e7 hp7 _ => ?_
        have g := g.trans e7
        refine q p7 G7 H7 g ?_
        have s6 := e7.gg
        have s5 := e6.gg.trans s6
        have s4 := e5.gg.trans s5
        have s3 := e4.gg.trans s4
        have s2 := e3.gg.trans s3
        have el : lawT (PTree.atom b ns) k = ⟨[(b, ns)], [k], [k], [], false⟩ := by cases b <;> rfl
        rw [el]
        exact ⟨p3, p4, p5, p6, _, _, hp7, s3 _ _ hp3, .cons ⟨p2, c, rfl, s2 _ _ hp2, g.gg _ _ hc⟩ .nil, s4 _ _ hp4, s5 _ _ hp5, s6 _ _ hp6, .nil⟩
      · obtain ⟨ol, od⟩ := PTree.leaves_one b t1
        refine ⟨_, (pss_cons (ps_if (pt_cmpR op_in_seq (pe_ix ix_tup (pv 0) pe_int (fun _ _ => rfl)) (pe_tup (pa_cons pe_str (pa_cons pe_str pa_nil))) (by rfl)) (pss_one (ps_ret (pe_lst (pa_cons (pe_lst (pa_cons (pe_tup (pa_cons (pe_ix ix_tup (pv 0) pe_int (fun _ _ => rfl)) (pa_cons (pe_ix ix_tup (pv 0) pe_int (fun _ _ => rfl)) pa_nil))) pa_nil)) (pa_cons (pe_lst (pa_cons (pv 1) pa_nil)) (pa_cons (pe_lst (pa_cons (pv 1) pa_nil)) (pa_cons (pe_lst pa_nil) (pa_cons pe_bl pa_nil)))))))) pss_nil)
  (pss_cons (ps_set (i := 2) sc__law_machine.nd rfl (Or.inr rfl) (C8.pe_c c__law_machine hr (by omega) rfl (pa_cons (pe_ix ix_tup (pv 0) pe_int (fun _ _ => rfl)) (pa_cons (pv 1) pa_nil))))
  (pss_cons (ps_if (pt_cmpR op_in_seq (pe_ix ix_tup (pv 0) pe_int (fun _ _ => rfl)) (pe_tup (pa_cons pe_str (pa_cons pe_str pa_nil))) (by rfl)) (pss_cons (ps_set (i := 3) sc__law_machine.nd rfl (Or.inl rfl) (pe_ix ix_list (pv 2) pe_int (fun _ _ => rfl)))
  (pss_cons (ps_if (pt_cmpR op_eq (pe_ix ix_tup (pv 0) pe_int (fun _ _ => rfl)) pe_str (nomark _)) (pss_one (ps_set (i := 3) sc__law_machine.nd rfl (Or.inl rfl) (pe_op op_cat (pv 3) (C8.pe_c c__law_crossed hr (by omega) rfl (pa_cons (pe_ix ix_list (pv 2) pe_int (fun _ _ => rfl)) (pa_cons (pe_ix ix_list (pv 2) pe_int (fun _ _ => rfl)) pa_nil)))))) pss_nil)
  (pss_one (ps_ret (pe_lst (pa_cons (pe_ix ix_list (pv 2) pe_int (fun _ _ => rfl)) (pa_cons (pe_ix ix_list (pv 2) pe_int (fun _ _ => rfl)) (pa_cons (pe_ix ix_list (pv 2) pe_int (fun _ _ => rfl)) (pa_cons (pv 3) (pa_cons pe_bl pa_nil)))))))))) pss_nil)
  (pss_cons (ps_set (i := 4) sc__law_machine.nd rfl (Or.inr rfl) (C8.pe_c c__law_machine hr (by omega) rfl (pa_cons (pe_ix ix_tup (pv 0) pe_int (fun _ _ => rfl)) (pa_cons (pe_op op_add (pv 1) (pe_callB (call_len_seq : CallR _ _ (rLenQ K)) rfl T.b_len (by decide +kernel) (pa_cons (pe_ix ix_list (pv 2) pe_int (fun _ _ => rfl)) pa_nil))) pa_nil))))
  (pss_cons (ps_if (pt_cmpR op_eq (pe_ix ix_tup (pv 0) pe_int (fun _ _ => rfl)) pe_str (nomark _)) (pss_one (ps_ret (pe_lst (pa_cons (pe_op op_cat (pe_ix ix_list (pv 2) pe_int (fun _ _ => rfl)) (pe_ix ix_list (pv 4) pe_int (fun _ _ => rfl))) (pa_cons (pe_op op_cat (pe_ix ix_list (pv 2) pe_int (fun _ _ => rfl)) (pe_ix ix_list (pv 4) pe_int (fun _ _ => rfl))) (pa_cons (pe_op op_cat (pe_ix ix_list (pv 2) pe_int (fun _ _ => rfl)) (pe_ix ix_list (pv 4) pe_int (fun _ _ => rfl))) (pa_cons (pe_op op_cat (pe_ix ix_list (pv 2) pe_int (fun _ _ => rfl)) (pe_ix ix_list (pv 4) pe_int (fun _ _ => rfl))) (pa_cons (pe_or (pe_ix ix_list (pv 2) pe_int (fun _ _ => rfl)) (pe_one (pe_ix ix_list (pv 4) pe_int (fun _ _ => rfl)))) pa_nil)))))))) pss_nil)
  (pss_cons (ps_set (i := 6) sc__law_machine.nd rfl (Or.inl rfl) (pe_op op_cat (pe_ix ix_list (pv 2) pe_int (fun _ _ => rfl)) (pe_lc (own := [("_law_atom_here", 5)]) (g := (gName 5)) rfl sc__law_machine.nd (pi_list (pe_ix ix_list (pv 4) pe_int (fun _ _ => rfl))) (blkOk_by (N := N__law_machine) (sc := defScope st__law_machine) (by decide +kernel)) (fun _ _ _ _ _ => (pg_name (i := 5) sc__law_machine.nd rfl (Or.inl rfl))) (fun _ _ _ _ _ => (pts_one (pt_val (pe_ix (ix_list : IxR _ (rIxL K)) (pv 2) pe_int (fun _ _ => rfl))))) (fun _ _ _ _ _ => (pv 5)))))
  (pss_cons (ps_set (i := 7) sc__law_machine.nd rfl (Or.inl rfl) (pe_op op_cat (pe_ix ix_list (pv 4) pe_int (fun _ _ => rfl)) (pe_lc (own := [("_law_atom_here", 5)]) (g := (gName 5)) rfl sc__law_machine.nd (pi_list (pe_ix ix_list (pv 2) pe_int (fun _ _ => rfl))) (blkOk_by (N := N__law_machine) (sc := defScope st__law_machine) (by decide +kernel)) (fun _ _ _ _ _ => (pg_name (i := 5) sc__law_machine.nd rfl (Or.inl rfl))) (fun _ _ _ _ _ => (pts_one (pt_val (pe_ix (ix_list : IxR _ (rIxL K)) (pv 4) pe_int (fun _ _ => rfl))))) (fun _ _ _ _ _ => (pv 5)))))
  (pss_one (ps_ret (pe_lst (pa_cons (pe_op op_cat (pe_ix ix_list (pv 2) pe_int (fun _ _ => rfl)) (pe_ix ix_list (pv 4) pe_int (fun _ _ => rfl))) (pa_cons (pv 6) (pa_cons (pv 7) (pa_cons (pe_op op_cat (pe_op op_cat (pe_ix ix_list (pv 2) pe_int (fun _ _ => rfl)) (pe_ix ix_list (pv 4) pe_int (fun _ _ => rfl))) (C8.pe_c c__law_crossed hr (by omega) rfl (pa_cons (pe_ix ix_list (pv 2) pe_int (fun _ _ => rfl)) (pa_cons (pe_ix ix_list (pv 4) pe_int (fun _ _ => rfl)) pa_nil)))) (pa_cons (pe_and (pe_ix ix_list (pv 2) pe_int (fun _ _ => rfl)) (pe_one (pe_ix ix_list (pv 4) pe_int (fun _ _ => rfl)))) pa_nil))))))))))))))), ?_⟩
        walk_at "r"
        refine r_ixT (j := 0) (g0.at ha) rfl ?_
        walk_at "r"
        refine e_tup g0.gh rfl fun p1 G1 H1 e1 hp1 _ => ?_
        have g := g0.trans e1
        refine r_inS (ks := ["any", "none"]) (.inr (.inl (.inl (g.at hp1)))) ?_
        walk_at "r"
        refine r_no (by cases b <;> decide) ?_
        walk_at "r"
        refine r_ixT (j := 1) (g.at (g.gg _ _ ha)) rfl ?_
        walk_at "r"
        refine ⟨x, k, t1, G1, rfl, g.gh, hx.mono g.gg, by omega, by omega, by omega, fun q1 G2 H2 e2 hm => ?_⟩
        have g := g.trans e2
        obtain ⟨x1, f1, l1, pa, vs, ws, m0, m1, m2, m3, m4, m5, m6⟩ := hm.ex
        obtain ⟨z1, z2⟩ := lawT_sizes t1 k
        have z3 := lawT_pairs6 (t := t1) (k := k) (by omega) (by omega)
        walk_at "r"
        refine r_ixT (j := 0) (g.at (g.gg _ _ ha)) rfl ?_
        walk_at "r"
        refine e_tup g.gh rfl fun p3 G3 H3 e3 hp3 _ => ?_
        have g := g.trans e3
        refine r_inS (ks := ["repeat", "option"]) (.inr (.inl (.inl (g.at hp3)))) ?_
        walk_at "r"
        refine r_yes (by cases b <;> decide) ?_
        walk_at "r"
        refine r_ixL (j := 3) (g.at (e3.gg _ _ m0)) rfl ?_
        refine r_name ?_
        with_reducible show tSeq _ _ _ _ _
        refine r_seqC (fun σ H' => ∃ (pa : Addr) (G4 : Hp) (ws : List V), Grow no G3 H3 G4 H' ∧ G4 pa = some (.lst ws) ∧ Seq2 (PairV G4) ws (lawT (.one b t1) k).pairs ∧
          σ = [some (.ref a), some (.int (k : Nat)), some (.ref q1), some (.ref pa), none, none, none, none]) ?_ ?_
        · rintro σ H4 ⟨pa, G4, ws, e4, hpa, hws, rfl⟩
          have g := g.trans e4
          have s4 := e3.gg.trans e4.gg
          walk_at "r"
          refine r_ixL (j := 0) (g.at (s4 _ _ m0)) rfl ?_
          walk_at "r"
          refine r_ixL (j := 1) (g.at (s4 _ _ m0)) rfl ?_
          walk_at "r"
          refine r_ixL (j := 2) (g.at (s4 _ _ m0)) rfl ?_
          walk_at "r"
          refine e_lst g.gh rfl fun p5 G5 H5 e5 hp5 _ => ?_
          have s5 := s4.trans e5.gg
          refine q p5 G5 H5 (g.trans e5) ?_
          have el : (lawT (PTree.one b t1) k).atoms = (lawT t1 k).atoms ∧ (lawT (PTree.one b t1) k).firsts = (lawT t1 k).firsts ∧ (lawT (PTree.one b t1) k).lasts = (lawT t1 k).lasts ∧ (lawT (PTree.one b t1) k).opt = true := by cases b <;> exact ⟨rfl, rfl, rfl, rfl⟩
          refine ⟨x1, f1, l1, pa, vs, ws, ?_, s5 _ _ m1, ?_, ?_, ?_, e5.gg _ _ hpa, hws.mono fun _ _ => PairV.mono e5.gg⟩
          · rw [el.2.2.2]; exact hp5
          · rw [el.1]; exact m2.mono fun _ _ => AtomL.mono s5
          · rw [el.2.1]; exact s5 _ _ m3
          · rw [el.2.2.1]; exact s5 _ _ m4
        · intro R hR
          walk_at "r"
          refine r_ixT (j := 0) (g.at (g.gg _ _ ha)) rfl ?_
          walk_at "r"
          refine r_eq rfl ?_
          walk_at "r"
          cases b with
          | true =>
            refine r_yes (by decide) ?_
            walk_at "r"
            refine r_ixL (j := 2) (g.at (e3.gg _ _ m0)) rfl ?_
            walk_at "r"
            refine r_ixL (j := 1) (g.at (e3.gg _ _ m0)) rfl ?_
            walk_at "r"
            refine ⟨l1, f1, _, _, G3, rfl, g.gh, e3.gg _ _ m4, e3.gg _ _ m3, by omega, by omega, fun q4 ws4 G4 H4 e4 hq4 hw4 => ?_⟩
            have g := g.trans e4
            refine e_cat g.gh (e4.gg _ _ (e3.gg _ _ m5)) hq4 ?_ fun q5 G5 H5 e5 hq5 _ => ?_
            · rw [m6.1, hw4.1, crossedL_len]
              have c : (lawT t1 k).lasts.length * (lawT t1 k).firsts.length ≤ 20 * 20 := Nat.mul_le_mul (by omega) (by omega)
              omega
            walk_at "r"
            refine hR _ _ ⟨q5, G5, _, e4.trans e5, hq5, ?_, rfl⟩
            exact (m6.mono fun _ _ => PairV.mono ((e3.gg.trans e4.gg).trans e5.gg)).app (hw4.mono fun _ _ => PairV.mono e5.gg)
          | false =>
            refine r_no (by decide) ?_
            walk_at "r"
            exact hR _ _ ⟨pa, G3, ws, Grow.refl g.gh, e3.gg _ _ m5, m6.mono fun _ _ => PairV.mono e3.gg, rfl⟩
      · obtain ⟨ol, od⟩ := PTree.leaves_two b t1 t2
        refine ⟨_, (pss_cons (ps_if (pt_cmpR op_in_seq (pe_ix ix_tup (pv 0) pe_int (fun _ _ => rfl)) (pe_tup (pa_cons pe_str (pa_cons pe_str pa_nil))) (by rfl)) (pss_one (ps_ret (pe_lst (pa_cons (pe_lst (pa_cons (pe_tup (pa_cons (pe_ix ix_tup (pv 0) pe_int (fun _ _ => rfl)) (pa_cons (pe_ix ix_tup (pv 0) pe_int (fun _ _ => rfl)) pa_nil))) pa_nil)) (pa_cons (pe_lst (pa_cons (pv 1) pa_nil)) (pa_cons (pe_lst (pa_cons (pv 1) pa_nil)) (pa_cons (pe_lst pa_nil) (pa_cons pe_bl pa_nil)))))))) pss_nil)
  (pss_cons (ps_set (i := 2) sc__law_machine.nd rfl (Or.inr rfl) (C8.pe_c c__law_machine hr (by omega) rfl (pa_cons (pe_ix ix_tup (pv 0) pe_int (fun _ _ => rfl)) (pa_cons (pv 1) pa_nil))))
  (pss_cons (ps_if (pt_cmpR op_in_seq (pe_ix ix_tup (pv 0) pe_int (fun _ _ => rfl)) (pe_tup (pa_cons pe_str (pa_cons pe_str pa_nil))) (by rfl)) (pss_cons (ps_set (i := 3) sc__law_machine.nd rfl (Or.inl rfl) (pe_ix ix_list (pv 2) pe_int (fun _ _ => rfl)))
  (pss_cons (ps_if (pt_cmpR op_eq (pe_ix ix_tup (pv 0) pe_int (fun _ _ => rfl)) pe_str (nomark _)) (pss_one (ps_set (i := 3) sc__law_machine.nd rfl (Or.inl rfl) (pe_op op_cat (pv 3) (C8.pe_c c__law_crossed hr (by omega) rfl (pa_cons (pe_ix ix_list (pv 2) pe_int (fun _ _ => rfl)) (pa_cons (pe_ix ix_list (pv 2) pe_int (fun _ _ => rfl)) pa_nil)))))) pss_nil)
  (pss_one (ps_ret (pe_lst (pa_cons (pe_ix ix_list (pv 2) pe_int (fun _ _ => rfl)) (pa_cons (pe_ix ix_list (pv 2) pe_int (fun _ _ => rfl)) (pa_cons (pe_ix ix_list (pv 2) pe_int (fun _ _ => rfl)) (pa_cons (pv 3) (pa_cons pe_bl pa_nil)))))))))) pss_nil)
  (pss_cons (ps_set (i := 4) sc__law_machine.nd rfl (Or.inr rfl) (C8.pe_c c__law_machine hr (by omega) rfl (pa_cons (pe_ix ix_tup (pv 0) pe_int (fun _ _ => rfl)) (pa_cons (pe_op op_add (pv 1) (pe_callB (call_len_seq : CallR _ _ (rLenQ K)) rfl T.b_len (by decide +kernel) (pa_cons (pe_ix ix_list (pv 2) pe_int (fun _ _ => rfl)) pa_nil))) pa_nil))))
  (pss_cons (ps_if (pt_cmpR op_eq (pe_ix ix_tup (pv 0) pe_int (fun _ _ => rfl)) pe_str (nomark _)) (pss_one (ps_ret (pe_lst (pa_cons (pe_op op_cat (pe_ix ix_list (pv 2) pe_int (fun _ _ => rfl)) (pe_ix ix_list (pv 4) pe_int (fun _ _ => rfl))) (pa_cons (pe_op op_cat (pe_ix ix_list (pv 2) pe_int (fun _ _ => rfl)) (pe_ix ix_list (pv 4) pe_int (fun _ _ => rfl))) (pa_cons (pe_op op_cat (pe_ix ix_list (pv 2) pe_int (fun _ _ => rfl)) (pe_ix ix_list (pv 4) pe_int (fun _ _ => rfl))) (pa_cons (pe_op op_cat (pe_ix ix_list (pv 2) pe_int (fun _ _ => rfl)) (pe_ix ix_list (pv 4) pe_int (fun _ _ => rfl))) (pa_cons (pe_or (pe_ix ix_list (pv 2) pe_int (fun _ _ => rfl)) (pe_one (pe_ix ix_list (pv 4) pe_int (fun _ _ => rfl)))) pa_nil)))))))) pss_nil)
  (pss_cons (ps_set (i := 6) sc__law_machine.nd rfl (Or.inl rfl) (pe_op op_cat (pe_ix ix_list (pv 2) pe_int (fun _ _ => rfl)) (pe_lc (own := [("_law_atom_here", 5)]) (g := (gName 5)) rfl sc__law_machine.nd (pi_list (pe_ix ix_list (pv 4) pe_int (fun _ _ => rfl))) (blkOk_by (N := N__law_machine) (sc := defScope st__law_machine) (by decide +kernel)) (fun _ _ _ _ _ => (pg_name (i := 5) sc__law_machine.nd rfl (Or.inl rfl))) (fun _ _ _ _ _ => (pts_one (pt_val (pe_ix (ix_list : IxR _ (rIxL K)) (pv 2) pe_int (fun _ _ => rfl))))) (fun _ _ _ _ _ => (pv 5)))))
  (pss_cons (ps_set (i := 7) sc__law_machine.nd rfl (Or.inl rfl) (pe_op op_cat (pe_ix ix_list (pv 4) pe_int (fun _ _ => rfl)) (pe_lc (own := [("_law_atom_here", 5)]) (g := (gName 5)) rfl sc__law_machine.nd (pi_list (pe_ix ix_list (pv 2) pe_int (fun _ _ => rfl))) (blkOk_by (N := N__law_machine) (sc := defScope st__law_machine) (by decide +kernel)) (fun _ _ _ _ _ => (pg_name (i := 5) sc__law_machine.nd rfl (Or.inl rfl))) (fun _ _ _ _ _ => (pts_one (pt_val (pe_ix (ix_list : IxR _ (rIxL K)) (pv 4) pe_int (fun _ _ => rfl))))) (fun _ _ _ _ _ => (pv 5)))))
  (pss_one (ps_ret (pe_lst (pa_cons (pe_op op_cat (pe_ix ix_list (pv 2) pe_int (fun _ _ => rfl)) (pe_ix ix_list (pv 4) pe_int (fun _ _ => rfl))) (pa_cons (pv 6) (pa_cons (pv 7) (pa_cons (pe_op op_cat (pe_op op_cat (pe_ix ix_list (pv 2) pe_int (fun _ _ => rfl)) (pe_ix ix_list (pv 4) pe_int (fun _ _ => rfl))) (C8.pe_c c__law_crossed hr (by omega) rfl (pa_cons (pe_ix ix_list (pv 2) pe_int (fun _ _ => rfl)) (pa_cons (pe_ix ix_list (pv 4) pe_int (fun _ _ => rfl)) pa_nil)))) (pa_cons (pe_and (pe_ix ix_list (pv 2) pe_int (fun _ _ => rfl)) (pe_one (pe_ix ix_list (pv 4) pe_int (fun _ _ => rfl)))) pa_nil))))))))))))))), ?_⟩
        walk_at "r"
        refine r_ixT (j := 0) (g0.at ha) rfl ?_
        walk_at "r"
        refine e_tup g0.gh rfl fun p1 G1 H1 e1 hp1 _ => ?_
        have g := g0.trans e1
        refine r_inS (ks := ["any", "none"]) (.inr (.inl (.inl (g.at hp1)))) ?_
        walk_at "r"
        refine r_no (by cases b <;> decide) ?_
        walk_at "r"
        refine r_ixT (j := 1) (g.at (g.gg _ _ ha)) rfl ?_
        walk_at "r"
        refine ⟨x, k, t1, G1, rfl, g.gh, hx.mono g.gg, by omega, by omega, by omega, fun q1 G2 H2 e2 hm => ?_⟩
        have g := g.trans e2
        obtain ⟨x1, f1, l1, pa, vs, ws, m0, m1, m2, m3, m4, m5, m6⟩ := hm.ex
        obtain ⟨z1, z2⟩ := lawT_sizes t1 k
        have z3 := lawT_pairs6 (t := t1) (k := k) (by omega) (by omega)
        walk_at "r"
        refine r_ixT (j := 0) (g.at (g.gg _ _ ha)) rfl ?_
        walk_at "r"
        refine e_tup g.gh rfl fun p3 G3 H3 e3 hp3 _ => ?_
        have g := g.trans e3
        refine r_inS (ks := ["repeat", "option"]) (.inr (.inl (.inl (g.at hp3)))) ?_
        walk_at "r"
        refine r_no (by cases b <;> decide) ?_
        walk_at "r"
        refine r_ixT (j := 2) (g.at (g.gg _ _ ha)) rfl ?_
        walk_at "r"
        refine r_ixL (j := 0) (g.at (e3.gg _ _ m0)) rfl ?_
        walk_at "r"
        refine r_lenQL (g.at (e3.gg _ _ m1)) ?_
        walk_at "r"
        have z4 := lawT_atoms t1 k
        refine ⟨y, k + (lawT t1 k).atoms.length, t2, G3, by rw [m2.1]; rfl, g.gh, hy.mono g.gg, by omega, by omega, by omega, fun q2 G4 H4 e4 hm2 => ?_⟩
        have g := g.trans e4
        obtain ⟨x2, f2, l2, pb, vs2, ws2, n0, n1, n2, n3, n4, n5, n6⟩ := hm2.ex
        obtain ⟨y1, y2⟩ := lawT_sizes t2 (k + (lawT t1 k).atoms.length)
        have y3 := lawT_pairs6 (t := t2) (k := k + (lawT t1 k).atoms.length) (by omega) (by omega)
        have y4 := lawT_atoms t2 (k + (lawT t1 k).atoms.length)
        have s4 := e3.gg.trans e4.gg
        have lv1 := m2.1
        have lv2 := n2.1
        have lw1 := m6.1
        have lw2 := n6.1
        generalize hA : lawT t1 k = A1 at *
        generalize hB : lawT t2 (k + A1.atoms.length) = A2 at *
        walk_at "r"
        refine r_ixT (j := 0) (g.at (g.gg _ _ ha)) rfl ?_
        walk_at "r"
        refine r_eq rfl ?_
        walk_at "r"
        cases b with
        | true =>
          refine r_yes (by decide) ?_
          walk_at "r"
          refine r_ixL (j := 0) (g.at (s4 _ _ m0)) rfl ?_
          walk_at "r"
          refine r_ixL (j := 0) (g.at n0) rfl ?_
          refine e_cat g.gh (s4 _ _ m1) n1 (by omega) fun c1 G5 H5 e5 hc1 _ => ?_
          have g := g.trans e5
          have s5 := s4.trans e5.gg
          walk_at "r"
          refine r_ixL (j := 1) (g.at (s5 _ _ m0)) rfl ?_
          walk_at "r"
          refine r_ixL (j := 1) (g.at (e5.gg _ _ n0)) rfl ?_
          refine e_cat g.gh (s5 _ _ m3) (e5.gg _ _ n3) (by rw [List.length_map, List.length_map]; omega) fun c2 G6 H6 e6 hc2 _ => ?_
          have g := g.trans e6
          have s6 := s5.trans e6.gg
          have r6 := e5.gg.trans e6.gg
          walk_at "r"
          refine r_ixL (j := 2) (g.at (s6 _ _ m0)) rfl ?_
          walk_at "r"
          refine r_ixL (j := 2) (g.at (r6 _ _ n0)) rfl ?_
          refine e_cat g.gh (s6 _ _ m4) (r6 _ _ n4) (by rw [List.length_map, List.length_map]; omega) fun c3 G7 H7 e7 hc3 _ => ?_
          have g := g.trans e7
          have s7 := s6.trans e7.gg
          have r7 := r6.trans e7.gg
          walk_at "r"
          refine r_ixL (j := 3) (g.at (s7 _ _ m0)) rfl ?_
          walk_at "r"
          refine r_ixL (j := 3) (g.at (r7 _ _ n0)) rfl ?_
          refine e_cat g.gh (s7 _ _ m5) (r7 _ _ n5) (by omega) fun c4 G8 H8 e8 hc4 _ => ?_
          have g := g.trans e8
          have s8 := s7.trans e8.gg
          have r8 := r7.trans e8.gg
          have fin : ∀ p9 G9 H9, Grow no G8 H8 G9 H9 → G9 p9 = some (.lst [.ref c1, .ref c2, .ref c3, .ref c4, .bl (A1.opt || A2.opt)]) → Q (.ref p9) H9 := fun p9 G9 H9 e9 hp9 => by
            refine q p9 G9 H9 (g.trans e9) ?_
            have el : lawT (PTree.two true t1 t2) k = ⟨A1.atoms ++ A2.atoms, A1.firsts ++ A2.firsts, A1.lasts ++ A2.lasts, A1.pairs ++ A2.pairs, A1.opt || A2.opt⟩ := by
              show (ML.mk _ _ _ _ _ : ML Str) = _
              rw [hA, hB]
            rw [el]
            have t9 := e9.gg
            have t8 := e8.gg.trans t9
            have t7 := e7.gg.trans t8
            have t6 := e6.gg.trans t7
            have s9 := s8.trans t9
            have r9 := r8.trans t9
            refine ⟨c1, c2, c3, c4, _, _, hp9, t6 _ _ hc1, (m2.mono fun _ _ => AtomL.mono s9).app (n2.mono fun _ _ => AtomL.mono r9), ?_, ?_, t9 _ _ hc4, (m6.mono fun _ _ => PairV.mono s9).app (n6.mono fun _ _ => PairV.mono r9)⟩
            · rw [NatL, List.map_append]; exact t7 _ _ hc2
            · rw [NatL, List.map_append]; exact t8 _ _ hc3
          walk_at "r"
          refine r_ixL (j := 4) (g.at (s8 _ _ m0)) rfl ?_
          walk_at "r"
          cases ho : A1.opt with
          | true =>
            walk_at "r"
            refine e_lst g.gh rfl fun p9 G9 H9 e9 hp9 _ => fin p9 G9 H9 e9 (by rw [ho]; exact hp9)
          | false =>
            walk_at "r"
            refine r_ixL (j := 4) (g.at (r8 _ _ n0)) rfl ?_
            walk_at "r"
            refine e_lst g.gh rfl fun p9 G9 H9 e9 hp9 _ => fin p9 G9 H9 e9 (by rw [ho]; exact hp9)
        | false =>
          refine r_no (by decide) ?_
          walk_at "r"
          refine r_ixL (j := 1) (g.at (s4 _ _ m0)) rfl ?_
          walk_at "r"
          refine r_ixL (j := 1) (g.at n0) rfl ?_
          refine ⟨f2, rfl, ⟨_, .inl (.inl (g.at n3))⟩, fun Dl hD => ?_⟩
          refine lc_it (walk_list (xs := A2.firsts.map natV)) (fun j H' => Same H4 H' ∧ NatL H' Dl ((A2.firsts.take j).filter fun _ => A1.opt)) ⟨same_upd hD, upd_same⟩ (fun _ _ _ h => .inl (.inl (h.1 _ _ (g.at n3)))) ?_ ?_
          · rintro j v H1' H5 hj ⟨s5, hDl⟩ ⟨rfl, hv⟩
            rw [List.getElem?_map] at hv
            obtain ⟨z, hz, rfl⟩ := Option.map_eq_some_iff.mp hv
            walk_at "r"
            refine ⟨rfl, ?_⟩
            walk_at "r"
            refine r_ixL (j := 4) (s5 _ _ (g.at (s4 _ _ m0))) rfl ?_
            walk_at "r"
            rw [take_snoc hz, List.filter_append]
            have szr : (((A2.firsts.take j).filter fun _ => A1.opt).map natV).length < sizeLine := by
              rw [List.length_map]
              exact small_lt (Nat.le_trans (List.length_filter_le _ _) (by rw [List.length_take]; omega))
            cases ho : A1.opt with
            | true =>
              walk_at "r"
              refine ⟨_, hDl, szr, s5.upd_mut hD, ?_⟩
              show upd _ _ _ _ = _
              rw [upd_same, ho, List.filter_cons_of_pos rfl, List.filter_nil, List.map_append]
              rfl
            | false =>
              walk_at "r"
              refine ⟨s5, ?_⟩
              rw [List.filter_cons_of_neg (by decide), List.filter_nil, List.append_nil, ← ho]
              exact hDl
          rintro H5 ⟨s5, hDl⟩
          rw [List.take_of_length_le (by rw [List.length_map]; exact Nat.le_refl _)] at hDl
          have g := (g.heap s5).tell hDl (g.freeN hD)
          have e5 : Grow no G4 H4 (upd G4 Dl _) H5 := ((Grow.refl (Same.trans (Same.refl G4) (fun a o h => (e4.gh _ _ h)))).heap s5).tell hDl hD
          have s5 := s4.trans e5.gg
          have r5 := e5.gg
          revert g e5 s5 r5
          generalize hG5 : upd G4 Dl _ = G5
          intro g e5 s5 r5
          have hD5 : G5 Dl = some (.lst ((A2.firsts.filter fun _ => A1.opt).map natV)) := by rw [← hG5]; exact upd_same
          refine e_cat g.gh (s5 _ _ m3) hD5 ?_ fun c2 G6 H6 e6 hc2 _ => ?_
          · have := List.length_filter_le (fun _ => A1.opt) A2.firsts
            rw [List.length_map, List.length_map]
            omega
          have g := g.trans e6
          have s6 := s5.trans e6.gg
          have r6 := r5.trans e6.gg
          walk_at "r"
          refine r_ixL (j := 2) (g.at (r6 _ _ n0)) rfl ?_
          walk_at "r"
          refine r_ixL (j := 2) (g.at (s6 _ _ m0)) rfl ?_
          refine ⟨l1, rfl, ⟨_, .inl (.inl (g.at (s6 _ _ m4)))⟩, fun Dm hDm => ?_⟩
          refine lc_it (walk_list (xs := A1.lasts.map natV)) (fun j H' => Same H6 H' ∧ NatL H' Dm ((A1.lasts.take j).filter fun _ => A2.opt)) ⟨same_upd hDm, upd_same⟩ (fun _ _ _ h => .inl (.inl (h.1 _ _ (g.at (s6 _ _ m4))))) ?_ ?_
          · rintro j v H1' H7 hj ⟨s7, hDl⟩ ⟨rfl, hv⟩
            rw [List.getElem?_map] at hv
            obtain ⟨z, hz, rfl⟩ := Option.map_eq_some_iff.mp hv
            walk_at "r"
            refine ⟨rfl, ?_⟩
            walk_at "r"
            refine r_ixL (j := 4) (s7 _ _ (g.at (r6 _ _ n0))) rfl ?_
            walk_at "r"
            rw [take_snoc hz, List.filter_append]
            have szr : (((A1.lasts.take j).filter fun _ => A2.opt).map natV).length < sizeLine := by
              rw [List.length_map]
              exact small_lt (Nat.le_trans (List.length_filter_le _ _) (by rw [List.length_take]; omega))
            cases ho : A2.opt with
            | true =>
              walk_at "r"
              refine ⟨_, hDl, szr, s7.upd_mut hDm, ?_⟩
              show upd _ _ _ _ = _
              rw [upd_same, ho, List.filter_cons_of_pos rfl, List.filter_nil, List.map_append]
              rfl
            | false =>
              walk_at "r"
              refine ⟨s7, ?_⟩
              rw [List.filter_cons_of_neg (by decide), List.filter_nil, List.append_nil, ← ho]
              exact hDl
          rintro H7 ⟨s7, hDl⟩
          rw [List.take_of_length_le (by rw [List.length_map]; exact Nat.le_refl _)] at hDl
          have g := (g.heap s7).tell hDl (g.freeN hDm)
          have e7 : Grow no G6 H6 (upd G6 Dm _) H7 := ((Grow.refl e6.gh).heap s7).tell hDl hDm
          have s7 := s6.trans e7.gg
          have r7 := r6.trans e7.gg
          have t7 := e7.gg
          revert g e7 s7 r7 t7
          generalize hG7 : upd G6 Dm _ = G7
          intro g e7 s7 r7 t7
          have hD7 : G7 Dm = some (.lst ((A1.lasts.filter fun _ => A2.opt).map natV)) := by rw [← hG7]; exact upd_same
          refine e_cat g.gh (r7 _ _ n4) hD7 ?_ fun c3 G8 H8 e8 hc3 _ => ?_
          · have := List.length_filter_le (fun _ => A2.opt) A1.lasts
            rw [List.length_map, List.length_map]
            omega
          have g := g.trans e8
          have s8 := s7.trans e8.gg
          have r8 := r7.trans e8.gg
          walk_at "r"
          refine r_ixL (j := 0) (g.at (s8 _ _ m0)) rfl ?_
          walk_at "r"
          refine r_ixL (j := 0) (g.at (r8 _ _ n0)) rfl ?_
          refine e_cat g.gh (s8 _ _ m1) (r8 _ _ n1) (by omega) fun c1 G9 H9 e9 hc1 _ => ?_
          have g := g.trans e9
          have s9 := s8.trans e9.gg
          have r9 := r8.trans e9.gg
          walk_at "r"
          refine r_ixL (j := 3) (g.at (s9 _ _ m0)) rfl ?_
          walk_at "r"
          refine r_ixL (j := 3) (g.at (r9 _ _ n0)) rfl ?_
          refine e_cat g.gh (s9 _ _ m5) (r9 _ _ n5) (by omega) fun d1 GA HA ea hd1 _ => ?_
          have g := g.trans ea
          have sa := s9.trans ea.gg
          have ra := r9.trans ea.gg
          walk_at "r"
          refine r_ixL (j := 2) (g.at (sa _ _ m0)) rfl ?_
          walk_at "r"
          refine r_ixL (j := 1) (g.at (ra _ _ n0)) rfl ?_
          walk_at "r"
          refine ⟨l1, f2, _, _, GA, rfl, g.gh, sa _ _ m4, ra _ _ n3, by omega, by omega, fun d2 ws4 GB HB eb hd2 hw4 => ?_⟩
          have g := g.trans eb
          have sb := sa.trans eb.gg
          have rb := ra.trans eb.gg
          refine e_cat g.gh (eb.gg _ _ hd1) hd2 ?_ fun c4 GC HC ec hc4 _ => ?_
          · rw [List.length_append, hw4.1, crossedL_len]
            have c : A1.lasts.length * A2.firsts.length ≤ 20 * 20 := Nat.mul_le_mul (by omega) (by omega)
            omega
          have g := g.trans ec
          have sc := sb.trans ec.gg
          have rc := rb.trans ec.gg
          have fin : ∀ p9 GD HD, Grow no GC HC GD HD → GD p9 = some (.lst [.ref c1, .ref c2, .ref c3, .ref c4, .bl (A1.opt && A2.opt)]) → Q (.ref p9) HD := fun p9 GD HD ed hp9 => by
            refine q p9 GD HD (g.trans ed) ?_
            have el : lawT (PTree.two false t1 t2) k = ⟨A1.atoms ++ A2.atoms, A1.firsts ++ A2.firsts.filter (fun _ => A1.opt), A2.lasts ++ A1.lasts.filter (fun _ => A2.opt), A1.pairs ++ A2.pairs ++ crossedL A1.lasts A2.firsts, A1.opt && A2.opt⟩ := by
              show (ML.mk _ _ _ _ _ : ML Str) = _
              rw [hA, hB]
            rw [el]
            have td := ed.gg
            have tc := ec.gg.trans td
            have tb := eb.gg.trans tc
            have ta := ea.gg.trans tb
            have t9 := e9.gg.trans ta
            have t8 := e8.gg.trans t9
            have sd := sc.trans td
            have rd := rc.trans td
            refine ⟨c1, c2, c3, c4, _, _, hp9, ta _ _ hc1, (m2.mono fun _ _ => AtomL.mono sd).app (n2.mono fun _ _ => AtomL.mono rd), ?_, ?_, td _ _ hc4, ((m6.mono fun _ _ => PairV.mono sd).app (n6.mono fun _ _ => PairV.mono rd)).app (hw4.mono fun _ _ => PairV.mono tc)⟩
            · rw [NatL, List.map_append]; exact (t7.trans t8) _ _ hc2
            · rw [NatL, List.map_append]; exact t9 _ _ hc3
          walk_at "r"
          refine r_ixL (j := 4) (g.at (sc _ _ m0)) rfl ?_
          walk_at "r"
          cases ho : A1.opt with
          | false =>
            walk_at "r"
            refine e_lst g.gh rfl fun p9 G9 H9 e9 hp9 _ => fin p9 G9 H9 e9 (by rw [ho]; exact hp9)
          | true =>
            walk_at "r"
            refine r_ixL (j := 4) (g.at (rc _ _ n0)) rfl ?_
            walk_at "r"
            refine e_lst g.gh rfl fun p9 G9 H9 e9 hp9 _ => fin p9 G9 H9 e9 (by rw [ho]; exact hp9)
end
end K48
/-! ## KD8 -/
set_option maxHeartbeats 4000000
namespace K48
open PySem L2
local macro_rules | `(tactic| walk_at "r1") => `(tactic| first
  | with_reducible refine r_seq ?_ | with_reducible refine r_asg ?_ | with_reducible refine r_ret ?_ | with_reducible refine r_drop ?_ | with_reducible refine r_if ?_ | with_reducible refine r_next ?_
  | with_reducible refine r_name ?_ | with_reducible refine r_c ?_ | ((with_reducible show tVar _ _ _ _); refine r_var rfl ?_) | with_reducible refine r_op ?_ | with_reducible refine r_un ?_
  | with_reducible refine r_i0 ?_ | with_reducible refine r_test ?_ | with_reducible refine r_tB ?_ | with_reducible refine r_bl ?_ | with_reducible refine r_and ?_ | with_reducible refine r_or ?_
  | with_reducible refine r_not ?_ | with_reducible refine r_ifE ?_ | with_reducible refine r_cons ?_ | with_reducible refine r_nil ?_ | with_reducible refine r_cb ?_ | with_reducible refine r_call ?_
  | with_reducible refine r_lstG ?_ | with_reducible refine r_tupG ?_ | with_reducible refine r_sl ?_ | with_reducible refine r_noP ?_ | with_reducible refine r_part ?_ | with_reducible refine r_exI ?_
  | with_reducible refine r_tr ?_ | with_reducible refine r_fa ?_ | with_reducible refine r_for ?_ | with_reducible refine r_iList ?_ | with_reducible refine r_iTup ?_ | with_reducible refine r_iStr ?_
  | with_reducible refine r_iR1 ?_ | with_reducible refine r_iR2 ?_ | with_reducible refine r_lc ?_ | with_reducible refine r_nt ?_ | with_reducible refine r_nf ?_ | with_reducible refine r_orV ?_ | with_reducible refine r_andV ?_ | with_reducible refine r_yesT ?_ | with_reducible refine r_gsub ?_ | with_reducible refine r_gcons ?_ | with_reducible refine r_gnil ?_ | with_reducible refine r_bm ?_ | with_reducible refine r_bm0 ?_
  | with_reducible refine r_fldG ?_ | with_reducible refine r_sfldG ?_ | with_reducible refine r_meth ?_ | with_reducible refine r_make ?_ | with_reducible refine r_dget ?_ | with_reducible refine r_din ?_ | with_reducible refine r_dnin ?_ | with_reducible refine r_dput ?_
  | with_reducible refine r_dgetN ?_ | with_reducible refine r_dinN ?_ | with_reducible refine r_dninN ?_ | with_reducible refine r_dputN ?_ | ((with_reducible show tAug _ _ _ _ _ _); refine r_aug rfl ?_) | with_reducible refine r_par ?_ | with_reducible refine r_neg ?_ | with_reducible refine r_iEnum ?_ | with_reducible refine r_iZip ?_ | with_reducible refine r_iZipA ?_)
local macro_rules | `(tactic| walk_at "r") => `(tactic| repeat walk_at "r1")

section
variable {σ : St} {H : Hp} {Q : VK} {tk tv : TE} {D : Ends} {c : TT} {tb : TS}
def dispP (Q : VK) (p : Addr) (x y : V) (H2 : Hp) : Prop := H2 p = some (.dK []) ∧ ∃ kvs : List (Key × V), [(x, y)] = kvs.map (fun kv => (kV kv.1, kv.2)) ∧ kvs.length ≤ 15 ∧ Q (.ref p) (upd H2 p (.dK (mergeK [] kvs)))
theorem dispP.mk {p : Addr} {y : V} {k : Key} (h : H p = some (.dK [])) (q : Q (.ref p) (upd H p (.dK [(k, y)]))) : dispP Q p (kV k) y H := ⟨h, [(k, y)], rfl, Nat.le_of_ble_eq_true rfl, q⟩
theorem r_disp1 (k : ∀ p H1, Same H H1 → H1 p = some (.dK []) → H p = none → tk σ H1 fun x H2 => tv σ H2 fun y H3 => dispP Q p x y H3) : tDisp [(tk, tv)] σ H Q :=
  fun p hp => k p _ (same_upd (o := .dK []) hp) upd_same hp
theorem r_while (Pv : Nat → St → Hp → Prop) (m : Nat) (h0 : Pv m σ H)
    (hs : ∀ m σ H, Pv m σ H → c σ H fun b H1 => if b = true then ∃ N : St → Hp → Prop, (∀ σ' H', N σ' H' → ∃ m', m' < m ∧ Pv m' σ' H') ∧ tb { D with nx := N, ct := N, bk := D.nx } σ H1 else D.nx σ H1) : tWhile c tb D σ H :=
  ⟨Pv, ⟨m, h0⟩, hs⟩
end
/-! the ways from a post -/
structure WaysI (G : Hp) (lanes : List (Lane Str)) (start : Str) (kvs : List (Key × V)) (zs : List Str) : Prop where
  keys : kvs.map (·.1) = zs.map nk
  nd : zs.Nodup
  sub : ∀ z ∈ zs, z ∈ start :: lanes.map (·.2.2)
  ways : ∀ z v, valV kvs (nk z) = some v → ∃ l R, v = .ref l ∧ StrL G l (R.map (·.1)) ∧ Way lanes start z R ∧ R.length ≤ kvs.length
  st : start ∈ zs
structure WaysD (G : Hp) (lanes : List (Lane Str)) (start : Str) (kvs : List (Key × V)) : Prop where
  conn : ∀ z, (valV kvs (nk z)).isSome = true ↔ Conn lanes start z
  ways : ∀ z v, valV kvs (nk z) = some v → ∃ l R, v = .ref l ∧ StrL G l (R.map (·.1)) ∧ Way lanes start z R ∧ R.length ≤ 10
theorem WaysD.mono {G G' : Hp} {lanes : List (Lane Str)} {start : Str} {kvs : List (Key × V)} (s : Same G G') (h : WaysD G lanes start kvs) : WaysD G' lanes start kvs :=
  ⟨h.conn, fun z v hv => by obtain ⟨l, R, e, h1, h2⟩ := h.ways z v hv; exact ⟨l, R, e, s _ _ h1, h2⟩⟩
theorem WaysI.len {G : Hp} {lanes : List (Lane Str)} {start : Str} {kvs : List (Key × V)} {zs : List Str} (h : WaysI G lanes start kvs zs) (h8 : lanes.length ≤ 8) : zs.length ≤ 9 ∧ kvs.length = zs.length := by
  have h1 := len_le_of_sub h.nd h.sub
  rw [List.length_cons, List.length_map] at h1
  have h2 : (kvs.map (·.1)).length = (zs.map nk).length := by rw [h.keys]
  rw [List.length_map, List.length_map] at h2
  omega
theorem WaysI.mem {G : Hp} {lanes : List (Lane Str)} {start : Str} {kvs : List (Key × V)} {zs : List Str} (h : WaysI G lanes start kvs zs) {z : Str} : (valV kvs (nk z)).isSome = true ↔ z ∈ zs := by
  constructor
  · intro hz
    by_cases c : z ∈ zs
    · exact c
    · have : valV kvs (nk z) = none := valV_none.mpr (by rw [h.keys, nk_mem]; exact c)
      rw [this] at hz
      cases hz
  · intro hz
    obtain ⟨v, hv⟩ := valV_some (kvs := kvs) (k := nk z) (by rw [h.keys, nk_mem]; exact hz)
    rw [hv]; rfl
theorem WaysI.mono {G G' : Hp} {lanes : List (Lane Str)} {start : Str} {kvs : List (Key × V)} {zs : List Str} (s : Same G G') (h : WaysI G lanes start kvs zs) : WaysI G' lanes start kvs zs :=
  ⟨h.keys, h.nd, h.sub, fun z v hv => by obtain ⟨l, R, e, h1, h2⟩ := h.ways z v hv; exact ⟨l, R, e, s _ _ h1, h2⟩, h.st⟩
theorem WaysI.put {G : Hp} {lanes : List (Lane Str)} {start : Str} {kvs : List (Key × V)} {zs : List Str} (h : WaysI G lanes start kvs zs) {e : Lane Str} (he : e ∈ lanes) {l : Addr} {R : List (Lane Str)}
    (hl : StrL G l ((R ++ [e]).map (·.1))) (hR : Way lanes start e.2.1 R) (hn : R.length ≤ kvs.length) (hz : e.2.2 ∉ zs) : WaysI G lanes start (kvs ++ [(nk e.2.2, .ref l)]) (zs ++ [e.2.2]) := by
  refine ⟨by rw [List.map_append, List.map_append, h.keys]; rfl, ?_, ?_, ?_, List.mem_append_left _ h.st⟩
  · rw [List.nodup_append]
    exact ⟨h.nd, by simp, fun x hx y hy e => hz (by rw [List.mem_singleton.mp hy] at e; exact e ▸ hx)⟩
  · intro z hm
    rcases List.mem_append.mp hm with hm | hm
    · exact h.sub z hm
    · rw [List.mem_singleton.mp hm]
      exact List.mem_cons_of_mem _ (List.mem_map.mpr ⟨e, he, rfl⟩)
  · intro z v hv
    rw [valV_app] at hv
    cases hq : valV kvs (nk z) with
    | some u =>
      rw [hq] at hv
      cases Option.some.inj hv
      obtain ⟨l, R, e1, h1, h2, h3⟩ := h.ways z _ hq
      exact ⟨l, R, e1, h1, h2, by rw [List.length_append]; omega⟩
    | none =>
      rw [hq] at hv
      have hv : (if nk e.2.2 = nk z then some (V.ref l) else none) = some v := hv
      by_cases c : nk e.2.2 = nk z
      · rw [if_pos c] at hv
        cases Option.some.inj hv
        cases Sum.inr.inj c
        exact ⟨l, R ++ [e], rfl, hl, hR.snoc he, by rw [List.length_append, List.length_append]; show R.length + 1 ≤ kvs.length + 1; omega⟩
      · rw [if_neg c] at hv
        cases hv
theorem WaysI.done {G : Hp} {lanes : List (Lane Str)} {start : Str} {kvs : List (Key × V)} {zs : List Str} (h : WaysI G lanes start kvs zs) (h8 : lanes.length ≤ 8) (hc : ∀ e ∈ lanes, e.2.1 ∈ zs → e.2.2 ∈ zs) : WaysD G lanes start kvs := by
  have hl := h.len h8
  refine ⟨fun z => h.mem.trans ⟨fun hz => ?_, fun hz => conn_closed (C := (· ∈ zs)) hc h.st hz⟩, fun z v hv => ?_⟩
  · obtain ⟨v, hv⟩ := valV_some (kvs := kvs) (k := nk z) (by rw [h.keys, nk_mem]; exact hz)
    obtain ⟨l, R, _, _, hw, _⟩ := h.ways z v hv
    exact ⟨R, hw⟩
  · obtain ⟨l, R, e1, h1, h2, h3⟩ := h.ways z v hv
    exact ⟨l, R, e1, h1, h2, by omega⟩
def spWays : Sp := fun vs H Q _ => ∃ (q : Addr) (start : Str) (G : Hp) (posts : List Str) (lanes : List (Lane Str)), vs = [V.ref q, .str start] ∧ Same G H ∧ PartsAt G q posts lanes ∧ lanes.length ≤ 8 ∧
  ∀ (d : Addr) (kvs : List (Key × V)) (G' H' : Hp), Grow no G H G' H' → G' d = some (.dK kvs) → WaysD G' lanes start kvs → Q (.ref d) H'
section
variable {P : Program} {w : World} {K : PySem.W.Frag} {mg : Str → Option Value} {base : Heap}
abbrev st__law_ways : Stmt := topS 80
abbrev N__law_ways : List Str := ["_law_parts", "_law_start", "_law_ways_here", "_law_queue", "_law_at", "_law_lane", "_law_first", "_law_second"]
theorem sc__law_ways : FnScope N__law_ways ["_law_parts", "_law_start"] (defScope st__law_ways) := ⟨rfl, rfl, rfl, by decide +kernel, rfl, by decide +kernel, by decide +kernel⟩
theorem ok__law_ways (T : Top K mg) (F : Dn K mg "_law_ways" st__law_ways) : Cal P w K mg base 1 "_law_ways" spWays := by
  refine F.cal sc__law_ways (fun vs H Q E h => ?_) (fun _ _ _ _ _ _ us hl => match us, hl with | [_, _], _ => rfl) (fun f cdv A outer s H vs Q E hr h => ?_)
  · obtain ⟨q, start, G, posts, lanes, rfl, _⟩ := h
    rfl
  · obtain ⟨q, start, G, posts, lanes, rfl, sg, hparts, h8, k⟩ := h
    obtain ⟨a, b, rows, hq, hP, hb, hrows⟩ := hparts.ex
    have g0 := Grow.refl sg (m := no)
    refine ⟨_, (pss_cons (ps_set (i := 2) sc__law_ways.nd rfl (Or.inl rfl) (pe_disp (pps_cons (pv 1) (pe_lst pa_nil) pps_nil) rfl rfl (fun z => nomatch z) (by decide)))
  (pss_cons (ps_set (i := 3) sc__law_ways.nd rfl (Or.inl rfl) (pe_lst (pa_cons (pv 1) pa_nil)))
  (pss_cons (ps_set (i := 4) sc__law_ways.nd rfl (Or.inl rfl) pe_int)
  (pss_cons (ps_while PassesOwn.never (pt_cmpR op_lt (pv 4) (pe_callB (call_len_seq : CallR _ _ (rLenQ K)) rfl T.b_len (by decide +kernel) (pa_cons (pv 3) pa_nil)) (nomark _)) (pss_cons (ps_for PassesOwn.never rfl (pi_list (pe_ix ix_list (pv 0) pe_int (fun _ _ => rfl))) (pg_tup rfl (pgs_cons (pg_name (i := 5) sc__law_ways.nd rfl (Or.inl rfl)) (pgs_cons (pg_name (i := 6) sc__law_ways.nd rfl (Or.inl rfl)) (pgs_cons (pg_name (i := 7) sc__law_ways.nd rfl (Or.inl rfl)) pgs_nil)))) (pss_one (ps_if (PW.pt (pw_and (pt_cmpR op_eq (pv 6) (pe_ix ix_list (pv 3) (pv 4) (fun _ _ => rfl)) (nomark _)) (pw_and1 (pt_cmp (pc_dnotin (hu1 hr) (pv 7) (pv 2)) rfl)))) (pss_cons (ps_dput (hu1 hr) (pv 2) (pv 7) (pe_op op_cat (pe_dget (hu1 hr) (pv 2) (pv 6) (fun _ _ => rfl)) (pe_lst (pa_cons (pv 5) pa_nil))) rfl)
  (pss_one (ps_expr (pe_bm PySem.F.plainAttrs_list PySem.F.slot_list_append PySem.F.type_list_append mt_append (pv 3) (pa_cons (pv 7) pa_nil))))) pss_nil)))
  (pss_one (ps_set (i := 4) sc__law_ways.nd rfl (Or.inl rfl) (pe_op op_add (pv 4) pe_int)))))
  (pss_one (ps_ret (pv 2))))))), ?_⟩
    walk_at "r"
    refine r_disp1 fun d H1 s1 hd hd0 => ?_
    have g := g0.heap s1
    have hdG := g0.free1 hd0
    walk_at "r"
    refine e_lst g.gh rfl fun l0 G2 H2 e2 hl0 hl00 => ?_
    have g := g.trans e2
    have hd := e2.same _ _ hd
    have hdG := e2.new d hdG (by rw [hd |> fun _ => (show H1 d = some (.dK []) from by assumption)]; intro z; cases z)
    refine dispP.mk (k := nk start) hd ?_
    have g := g.mut (o := .dK [(nk start, .ref l0)]) hdG (.inl hd0)
    have hd2 : upd H2 d (.dK [(nk start, .ref l0)]) d = some (.dK [(nk start, .ref l0)]) := upd_same
    revert g hd2
    generalize upd H2 d (.dK [(nk start, .ref l0)]) = H3
    intro g hd
    walk_at "r"
    refine h_lst rfl fun qa H4 s4 hqa hqa0 => ?_
    have g' := g.heap s4
    have hqG := g.free1 hqa0
    have hq0 := g.freeN hqa0
    have hdq : d ≠ qa := ne_of_none hd hqa0
    have hd := s4 _ _ hd
    have hqa0' := hq0
    walk_at "r"
    have I0 : WaysI G2 lanes start [(nk start, .ref l0)] [start] := by
      refine ⟨rfl, by simp, fun z hz => by rw [List.mem_singleton.mp hz]; exact List.mem_cons_self, fun z v hv => ?_, List.mem_singleton.mpr rfl⟩
      rw [valV_cons, valV_nil] at hv
      by_cases c : nk start = nk z
      · rw [if_pos c] at hv
        cases Option.some.inj hv
        cases Sum.inr.inj c
        exact ⟨l0, [], rfl, hl0, Way.nil, Nat.zero_le _⟩
      · rw [if_neg c] at hv; cases hv
    refine r_while (fun m σ H' => ∃ (G' : Hp) (kvs : List (Key × V)) (zs : List Str) (at1 : Nat) (y5 y6 y7 : Option V), m = 20 - at1 ∧ at1 ≤ zs.length ∧ Grow no G H G' H' ∧ G' d = none ∧ G' qa = none ∧ H' d = some (.dK kvs) ∧ StrL H' qa zs ∧ WaysI G' lanes start kvs zs ∧
      (∀ i, i < at1 → ∀ e ∈ lanes, zs[i]? = some e.2.1 → e.2.2 ∈ zs) ∧ σ = [some (.ref q), some (.str start), some (.ref d), some (.ref qa), some (.int (at1 : Nat)), y5, y6, y7])
      20 ⟨G2, _, [start], 0, _, _, _, rfl, Nat.zero_le _, g', hdG, hqG, hd, hqa, I0, fun i hi => absurd hi (Nat.not_lt_zero _), rfl⟩ ?_
    rintro m σ H5 ⟨G5, kvs, zs, at1, y5, y6, y7, rfl, hat, g, hdG, hqG, hd, hqa, I, hdone, rfl⟩
    have hlen := I.len h8
    walk_at "r"
    refine r_lenQL hqa ?_
    walk_at "r"
    rw [List.length_map]
    by_cases c : at1 < zs.length
    · refine r_yes (decide_eq_true (by omega)) ?_
      refine ⟨_, fun _ _ h => h, ?_⟩
      walk_at "r"
      refine r_ixL (j := 1) (g.at (g.gg _ _ hq)) rfl ?_
      refine ⟨b, rfl, ⟨_, .inl (.inl (g.at (g.gg _ _ hb)))⟩, ?_⟩
      have hp0 : zs[at1]? = some zs[at1] := List.getElem?_eq_getElem c
      generalize zs[at1] = p0 at hp0
      refine for_it (walk_list (xs := rows)) (fun i σ H' => ∃ (G' : Hp) (kvs : List (Key × V)) (zs : List Str) (y5 y6 y7 : Option V), at1 < zs.length ∧ Grow no G H G' H' ∧ G' d = none ∧ G' qa = none ∧ H' d = some (.dK kvs) ∧ StrL H' qa zs ∧ WaysI G' lanes start kvs zs ∧
        (∀ i, i < at1 → ∀ e ∈ lanes, zs[i]? = some e.2.1 → e.2.2 ∈ zs) ∧ zs[at1]? = some p0 ∧ (∀ e ∈ lanes.take i, e.2.1 = p0 → e.2.2 ∈ zs) ∧ σ = [some (.ref q), some (.str start), some (.ref d), some (.ref qa), some (.int (at1 : Nat)), y5, y6, y7])
        ⟨G5, kvs, zs, _, _, _, c, g, hdG, hqG, hd, hqa, I, hdone, hp0, by simp, rfl⟩ (fun i σ H' _ ⟨_, _, _, _, _, _, _, g, _⟩ => .inl (.inl (g.at (g.gg _ _ hb)))) ?_ ?_
      · clear hqa hd hdone hp0 c hlen hat I
        rintro i v σ H6' H6 hi ⟨G6, kvs, zs, y5, y6, y7, hat, g, hdG, hqG, hd, hqa, I, hdone, hp0, hrow, rfl⟩ ⟨rfl, hx⟩
        have hlen := I.len h8
        obtain ⟨e, he, t, rfl, ht⟩ := hrows.at hx
        have hem : e ∈ lanes := List.mem_of_getElem? he
        refine r_gtup (g.at (g.gg _ _ ht)) rfl ?_
        walk_at "r"
        refine r_ixL hqa (by rw [List.getElem?_map, hp0]; rfl) ?_
        walk_at "r"
        refine r_eq rfl ?_
        walk_at "r"
        by_cases c1 : e.2.1 = p0
        · refine r_yes (decide_eq_true (by rw [c1])) ?_
          walk_at "r"
          refine ⟨d, _, rfl, DGet.k (k := nk e.2.2) hd, ?_⟩
          walk_at "r"
          by_cases c2 : e.2.2 ∈ zs
          · refine r_no (by rw [I.mem.mpr c2]; rfl) ?_
            walk_at "r"
            refine ⟨G6, kvs, zs, _, _, _, hat, g, hdG, hqG, hd, hqa, I, hdone, hp0, ?_, rfl⟩
            intro e' he' h
            rw [take_snoc he] at he'
            rcases List.mem_append.mp he' with h1 | h1
            · exact hrow e' h1 h
            · rw [List.mem_singleton.mp h1]; exact c2
          · have cn : valV kvs (nk e.2.2) = none := valV_none.mpr (by rw [I.keys, nk_mem]; exact c2)
            refine r_yes (by rw [cn]; rfl) ?_
            walk_at "r"
            have hpm : p0 ∈ zs := List.mem_of_getElem? hp0
            obtain ⟨v, hv⟩ := valV_some (kvs := kvs) (k := nk e.2.1) (by rw [I.keys, nk_mem, c1]; exact hpm)
            obtain ⟨l, R, rfl, hl, hR, hRn⟩ := I.ways e.2.1 v hv
            refine ⟨d, _, rfl, by rw [← hv]; exact DGet.k (k := nk e.2.1) hd, ?_⟩
            walk_at "r"
            refine e_lst g.gh rfl fun l2 G7 H7 e7 hl2 _ => ?_
            refine e_cat (g.trans e7).gh (e7.gg _ _ hl) hl2 (by rw [List.length_map, List.length_map]; show R.length + 1 ≤ _; omega) fun l3 G8 H8 e8 hl3 hl30 => ?_
            have g := (g.trans e7).trans e8
            have e78 := e7.trans e8
            have hd := e78.same _ _ hd
            have hqa : StrL H8 qa zs := e78.same _ _ hqa
            have hdG := e78.new d hdG (by rename_i hd0 _; rw [hd0 |> fun _ => (show H6 d = some (.dK kvs) from by assumption)]; intro z; cases z)
            have hqG := e78.new qa hqG (by rw [show H6 qa = _ from by assumption]; intro z; cases z)
            walk_at "r"
            refine ⟨d, _, rfl, DPut.k (k := nk e.2.2) hd (small_lt (by omega)), ?_⟩
            rw [putK_new (by rw [I.keys, nk_mem]; exact c2)]
            have hdq2 : qa ≠ d := fun z => by
              have h2 : H8 qa = some (.lst (zs.map V.str)) := hqa
              rw [z, hd] at h2; cases h2
            have hqa2 : StrL (upd H8 d (.dK (kvs ++ [(nk e.2.2, .ref l3)]))) qa zs := by show upd _ _ _ _ = _; rw [upd_ne hdq2]; exact hqa
            walk_at "r"
            refine r_tyL hqa2 ?_
            walk_at "r"
            refine r_app hqa2 (by rw [List.length_map]; exact small_lt (by omega)) ?_
            have g := (g.mut (o := .dK (kvs ++ [(nk e.2.2, .ref l3)])) hdG (.inl hd0)).mut (o := .lst (zs.map V.str ++ [.str e.2.2])) hqG (.inl hq0)
            refine ⟨G8, kvs ++ [(nk e.2.2, .ref l3)], zs ++ [e.2.2], _, _, _, by rw [List.length_append]; omega, g, hdG, hqG, by rw [upd_ne (Ne.symm hdq2), upd_same], by show upd _ _ _ _ = _; rw [upd_same, List.map_append]; rfl, ?_, ?_, ?_, ?_, rfl⟩
            · exact (I.mono e78.gg).put hem (by rw [StrL, List.map_append, List.map_append]; exact hl3) hR hRn c2
            · intro i hi e' he' h
              rw [List.getElem?_append_left (by omega)] at h
              exact List.mem_append_left _ (hdone i hi e' he' h)
            · rw [List.getElem?_append_left (by omega)]; exact hp0
            · intro e' he' h
              rw [take_snoc he] at he'
              rcases List.mem_append.mp he' with h1 | h1
              · exact List.mem_append_left _ (hrow e' h1 h)
              · rw [List.mem_singleton.mp h1]; exact List.mem_append_right _ (List.mem_singleton.mpr rfl)
        · refine r_no (decide_eq_false fun z => c1 (V.str.inj z)) ?_
          walk_at "r"
          refine ⟨G6, kvs, zs, _, _, _, hat, g, hdG, hqG, hd, hqa, I, hdone, hp0, ?_, rfl⟩
          intro e' he' h
          rw [take_snoc he] at he'
          rcases List.mem_append.mp he' with h1 | h1
          · exact hrow e' h1 h
          · rw [List.mem_singleton.mp h1] at h; exact absurd h c1
      · clear hqa hd hdone hp0 c hlen hat I
        rintro σ H6 ⟨G6, kvs, zs, y5, y6, y7, hat, g, hdG, hqG, hd, hqa, I, hdone, hp0, hrow, rfl⟩
        have hlen := I.len h8
        rw [List.take_of_length_le (by rw [hrows.1]; exact Nat.le_refl _)] at hrow
        walk_at "r"
        refine ⟨20 - (at1 + 1), by omega, G6, kvs, zs, at1 + 1, _, _, _, rfl, by omega, g, hdG, hqG, hd, hqa, I, ?_, rfl⟩
        intro i hi e he h
        by_cases c : i < at1
        · exact hdone i c e he h
        · have : i = at1 := by omega
          subst this
          rw [hp0] at h
          exact hrow e he (Option.some.inj h).symm
    · refine r_no (decide_eq_false (by omega)) ?_
      walk_at "r"
      refine k d kvs _ H5 (g.tell hd hd0) upd_same ?_
      refine (I.mono (same_upd hdG)).done h8 fun e he h => ?_
      obtain ⟨i, hi⟩ := List.getElem?_of_mem h
      exact hdone i (by have := (List.getElem?_eq_some_iff.mp hi).1; omega) e he hi
end
end K48
/-! ## KD9 -/
set_option maxHeartbeats 4000000
namespace K48
open PySem L2
local macro_rules | `(tactic| walk_at "r1") => `(tactic| first
  | with_reducible refine r_seq ?_ | with_reducible refine r_asg ?_ | with_reducible refine r_ret ?_ | with_reducible refine r_drop ?_ | with_reducible refine r_if ?_ | with_reducible refine r_next ?_
  | with_reducible refine r_name ?_ | with_reducible refine r_c ?_ | ((with_reducible show tVar _ _ _ _); refine r_var rfl ?_) | with_reducible refine r_op ?_ | with_reducible refine r_un ?_
  | with_reducible refine r_i0 ?_ | with_reducible refine r_test ?_ | with_reducible refine r_tB ?_ | with_reducible refine r_bl ?_ | with_reducible refine r_and ?_ | with_reducible refine r_or ?_
  | with_reducible refine r_not ?_ | with_reducible refine r_ifE ?_ | with_reducible refine r_cons ?_ | with_reducible refine r_nil ?_ | with_reducible refine r_cb ?_ | with_reducible refine r_call ?_
  | with_reducible refine r_lstG ?_ | with_reducible refine r_tupG ?_ | with_reducible refine r_sl ?_ | with_reducible refine r_noP ?_ | with_reducible refine r_part ?_ | with_reducible refine r_exI ?_
  | with_reducible refine r_tr ?_ | with_reducible refine r_fa ?_ | with_reducible refine r_for ?_ | with_reducible refine r_iList ?_ | with_reducible refine r_iTup ?_ | with_reducible refine r_iStr ?_
  | with_reducible refine r_iR1 ?_ | with_reducible refine r_iR2 ?_ | with_reducible refine r_lc ?_ | with_reducible refine r_nt ?_ | with_reducible refine r_nf ?_ | with_reducible refine r_orV ?_ | with_reducible refine r_andV ?_ | with_reducible refine r_yesT ?_ | with_reducible refine r_gsub ?_ | with_reducible refine r_gcons ?_ | with_reducible refine r_gnil ?_ | with_reducible refine r_bm ?_ | with_reducible refine r_bm0 ?_
  | with_reducible refine r_fldG ?_ | with_reducible refine r_sfldG ?_ | with_reducible refine r_meth ?_ | with_reducible refine r_make ?_ | with_reducible refine r_dget ?_ | with_reducible refine r_din ?_ | with_reducible refine r_dnin ?_ | with_reducible refine r_dput ?_
  | with_reducible refine r_dgetN ?_ | with_reducible refine r_dinN ?_ | with_reducible refine r_dninN ?_ | with_reducible refine r_dputN ?_ | ((with_reducible show tAug _ _ _ _ _ _); refine r_aug rfl ?_) | with_reducible refine r_par ?_ | with_reducible refine r_neg ?_ | with_reducible refine r_iEnum ?_ | with_reducible refine r_iZip ?_ | with_reducible refine r_iZipA ?_)
local macro_rules | `(tactic| walk_at "r") => `(tactic| repeat walk_at "r1")

/-! ### names of runs -/
def quietN {A : Type} [DecidableEq A] (M : Mach A) : List Nat → List A → Bool
  | _, [] => true
  | ps, e :: r => !M.done (M.begun ps e) && quietN M (M.begun ps e) r
theorem quiet_names {A : Type} [DecidableEq A] (M : Mach A) : ∀ (ps : List Nat) (R : List (Lane A)), quiet M ps R = quietN M ps (R.map (·.1))
  | _, [] => rfl
  | ps, e :: r => by rw [quiet, List.map_cons, quietN, quiet_names M _ r]
theorem quietN_snoc {A : Type} [DecidableEq A] (M : Mach A) (ps : List Nat) (a : A) (r : List A) (h : quietN M ps (a :: r) = false) (hd : M.done (M.begun ps a) = false) : quietN M (M.begun ps a) r = false := by
  rw [quietN, hd] at h; exact h
def spRowTree : Sp := fun vs H Q _ => ∃ (a : Addr) (ns : List Str) (G : Hp), vs = [.ref a] ∧ Same G H ∧ StrL G a ns ∧ ns ≠ [] ∧ ns.length ≤ 100 ∧ ∀ (v : V) (G' H' : Hp), Grow no G H G' H' → TreeAt G' true (rowT ns) v → Q v H'
def spRunShows : Sp := fun vs H Q _ => ∃ (a b : Addr) (ns : List Str) (m : ML Str), vs = [.ref a, .ref b] ∧ StrL H a ns ∧ MachL H b m ∧ m.atoms.length ≤ 100 ∧ ∀ H', Same H H' → Q (.bl (m.opt || !quietN m.mach [] ns)) H'
def spIsRun : Sp := fun vs H Q _ => ∃ (q e a : Addr) (start z : Str) (ends : List Str) (R : List (Lane Str)) (G : Hp) (posts : List Str) (lanes : List (Lane Str)), vs = [.ref q, .str start, .ref e, .ref a] ∧ Same G H ∧ PartsAt G q posts lanes ∧ (lanes.map (·.1)).Nodup ∧ lanes.length ≤ 8 ∧ StrL G e ends ∧ StrL G a (R.map (·.1)) ∧
  Way lanes start z R ∧ z ∈ ends ∧ ∀ H', Same H H' → Q (.bl true) H'
def spUsed : Sp := fun vs H Q _ => ∃ (q e : Addr) (start : Str) (ends : List Str) (G : Hp) (posts : List Str) (lanes : List (Lane Str)), vs = [.ref q, .str start, .ref e] ∧ Same G H ∧ PartsAt G q posts lanes ∧ lanes.length ≤ 8 ∧ StrL G e ends ∧ (∀ z ∈ ends, IsNm z) ∧ ends.length ≤ 10 ∧
  ∀ (a : Addr) (us : List (Lane Str)) (H' : Hp), Same H H' → H a = none → StrL H' a (us.map (·.1)) → us.length ≤ 8 → (∀ u ∈ us, Used lanes start ends u) → Q (.ref a) H'
section
variable {P : Program} {w : World} {K : PySem.W.Frag} {mg : Str → Option Value} {base : Heap}
abbrev st__law_row_tree : Stmt := topS 91
abbrev N__law_row_tree : List Str := ["_law_names", "_law_tree_here", "_law_name"]
theorem sc__law_row_tree : FnScope N__law_row_tree ["_law_names"] (defScope st__law_row_tree) := ⟨rfl, rfl, rfl, by decide +kernel, rfl, by decide +kernel, by decide +kernel⟩
theorem ok__law_row_tree (T : Top K mg) (F : Dn K mg "_law_row_tree" st__law_row_tree) : Cal P w K mg base 1 "_law_row_tree" spRowTree := by
  refine F.cal sc__law_row_tree (fun vs H Q E h => ?_) (fun _ _ _ _ _ _ us hl => match us, hl with | [_], _ => rfl) (fun f cdv A outer s H vs Q E hr h => ?_)
  · obtain ⟨a, ns, G, rfl, _⟩ := h
    rfl
  · obtain ⟨a, ns, G, rfl, sg, ha, h0, h100, k⟩ := h
    have g0 := Grow.refl sg (m := no)
    obtain ⟨n0, nr, rfl⟩ : ∃ x r, ns = x :: r := by cases ns with | nil => exact absurd rfl h0 | cons x r => exact ⟨x, r, rfl⟩
    refine ⟨_, (pss_cons (ps_set (i := 1) sc__law_row_tree.nd rfl (Or.inl rfl) (pe_tup (pa_cons pe_str (pa_cons (pe_lst (pa_cons (pe_ix ix_list (pv 0) pe_int (fun _ _ => rfl)) pa_nil)) pa_nil))))
  (pss_cons (ps_for PassesOwn.never rfl (pi_list (pe_slice sl_list (pv 0) (po_some pe_int) po_none)) (pg_name (i := 2) sc__law_row_tree.nd rfl (Or.inl rfl)) (pss_one (ps_set (i := 1) sc__law_row_tree.nd rfl (Or.inl rfl) (pe_tup (pa_cons pe_str (pa_cons (pv 1) (pa_cons (pe_tup (pa_cons pe_str (pa_cons (pe_lst (pa_cons (pv 2) pa_nil)) pa_nil))) pa_nil)))))))
  (pss_one (ps_ret (pv 1))))), ?_⟩
    walk_at "r"
    refine r_ixL (j := 0) (g0.at ha) rfl ?_
    walk_at "r"
    refine e_lst g0.gh rfl fun l1 G1 H1 e1 hl1 _ => ?_
    have g := g0.trans e1
    walk_at "r"
    refine e_tup g.gh rfl fun t1 G2 H2 e2 ht1 _ => ?_
    have g := g.trans e2
    walk_at "r"
    refine e_slL (lo := some 1) (hi := none) g.gh (g.gg _ _ ha) fun l2 G3 H3 e3 hl2 _ => ?_
    have g := g.trans e3
    have ec : cutV ((n0 :: nr).map V.str) (some 1) none = nr.map V.str := cut_from _ 1
    rw [ec] at hl2
    refine ⟨l2, rfl, ⟨_, .inl (.inl (g.at hl2))⟩, ?_⟩
    refine for_it (walk_list (xs := nr.map V.str)) (fun i σ H' => ∃ (G' : Hp) (v : V) (y2 : Option V), Grow no G3 H3 G' H' ∧ TreeAt G' true (rowT (n0 :: nr.take i)) v ∧ σ = [some (.ref a), some v, y2])
      ⟨G3, _, _, Grow.refl g.gh, ⟨t1, l1, rfl, e3.gg _ _ ht1, (e2.gg.trans e3.gg) _ _ hl1⟩, rfl⟩ (fun i σ H' _ ⟨_, _, _, e, _⟩ => .inl (.inl (e.at (e.gg _ _ hl2)))) ?_ ?_
    · rintro i v σ H4' H4 hi ⟨G4, tv, y2, e4, ht, rfl⟩ ⟨rfl, hx⟩
      rw [List.getElem?_map] at hx
      obtain ⟨z, hz, rfl⟩ := Option.map_eq_some_iff.mp hx
      walk_at "r"
      refine e_lst e4.gh rfl fun l5 G5 H5 e5 hl5 _ => ?_
      have e := e4.trans e5
      walk_at "r"
      refine e_tup e.gh rfl fun t5 G6 H6 e6 ht5 _ => ?_
      have e := e.trans e6
      walk_at "r"
      refine e_tup e.gh rfl fun t6 G7 H7 e7 ht6 _ => ?_
      have e := e.trans e7
      walk_at "r"
      refine ⟨G7, _, _, e, ?_, rfl⟩
      have er : rowT (n0 :: nr.take (i + 1)) = .join (rowT (n0 :: nr.take i)) (.any [z]) := by
        rw [take_snoc hz]
        show List.foldl _ _ _ = _
        rw [List.foldl_append]
        rfl
      rw [er]
      exact ⟨t6, tv, .ref t5, rfl, ht6, ht.mono ((e5.gg.trans e6.gg).trans e7.gg), t5, l5, rfl, e7.gg _ _ ht5, (e6.gg.trans e7.gg) _ _ hl5⟩
    · rintro σ H4 ⟨G4, tv, y2, e4, ht, rfl⟩
      rw [List.take_of_length_le (by rw [List.length_map]; exact Nat.le_refl _)] at ht
      walk_at "r"
      exact k tv G4 H4 (g.trans e4) ht
abbrev st__law_run_shows : Stmt := topS 98
abbrev N__law_run_shows : List Str := ["_law_lanes_here", "_law_machine_here", "_law_places", "_law_lane"]
theorem sc__law_run_shows : FnScope N__law_run_shows ["_law_lanes_here", "_law_machine_here"] (defScope st__law_run_shows) := ⟨rfl, rfl, rfl, by decide +kernel, rfl, by decide +kernel, by decide +kernel⟩
theorem ok__law_run_shows (T : Top K mg) (F : Dn K mg "_law_run_shows" st__law_run_shows) (c__law_led : Cal P w K mg base 2 "_law_led" spLedL) (c__law_done : Cal P w K mg base 1 "_law_done" spDoneL) : Cal P w K mg base 3 "_law_run_shows" spRunShows := by
  refine F.cal sc__law_run_shows (fun vs H Q E h => ?_) (fun _ _ _ _ _ _ us hl => match us, hl with | [_, _], _ => rfl) (fun f cdv A outer s H vs Q E hr h => ?_)
  · obtain ⟨a, b, ns, m, rfl, _⟩ := h
    rfl
  · obtain ⟨a, b, ns, m, rfl, ha, hm, hma, k⟩ := h
    obtain ⟨x1, f1, l1, pa, vs, ws, m0, _⟩ := hm.ex
    refine ⟨_, (pss_cons (ps_if (pt_val (pe_ix ix_list (pv 1) pe_int (fun _ _ => rfl))) (pss_one (ps_ret pe_bl)) pss_nil)
  (pss_cons (ps_set (i := 2) sc__law_run_shows.nd rfl (Or.inl rfl) (pe_tup pa_nil))
  (pss_cons (ps_for PassesOwn.never rfl (pi_list (pv 0)) (pg_name (i := 3) sc__law_run_shows.nd rfl (Or.inl rfl)) (pss_cons (ps_set (i := 2) sc__law_run_shows.nd rfl (Or.inl rfl) (C8.pe_c c__law_led hr (by omega) rfl (pa_cons (pv 1) (pa_cons (pv 2) (pa_cons (pv 3) (pa_cons pe_bl pa_nil))))))
  (pss_one (ps_if (pt_val (C8.pe_c c__law_done hr (by omega) rfl (pa_cons (pv 1) (pa_cons (pv 2) pa_nil)))) (pss_one (ps_ret pe_bl)) pss_nil))))
  (pss_one (ps_ret pe_bl))))), ?_⟩
    walk_at "r"
    refine r_ixL (j := 4) m0 rfl ?_
    walk_at "r"
    cases ho : m.opt with
    | true =>
      walk_at "r"
      have := k H (Same.refl H)
      rw [ho] at this
      exact this
    | false =>
      rw [ho] at k
      walk_at "r"
      refine h_tup rfl fun t0 H1 s1 ht0 _ => ?_
      walk_at "r"
      refine ⟨a, rfl, ⟨_, .inl (.inl (s1 _ _ ha))⟩, ?_⟩
      refine for_it (walk_list (xs := ns.map V.str)) (fun i σ H' => ∃ (t : Addr) (ps : List Nat) (y : Option V), Same H H' ∧ NatT H' t ps ∧ ps.length ≤ 100 ∧ quietN m.mach [] ns = quietN m.mach ps (ns.drop i) ∧ σ = [some (.ref a), some (.ref b), some (.ref t), y])
        ⟨t0, [], _, s1, ht0, by decide, rfl, rfl⟩ (fun i σ H' _ ⟨_, _, _, s, _⟩ => .inl (.inl (s _ _ ha))) ?_ ?_
      · rintro i v σ H4' H4 hi ⟨t, ps, y, s4, ht, hps, hq, rfl⟩ ⟨rfl, hx⟩
        rw [List.getElem?_map] at hx
        obtain ⟨z, hz, rfl⟩ := Option.map_eq_some_iff.mp hx
        walk_at "r"
        refine ⟨b, t, m, ps, z, rfl, hm.mono s4, ht, hps, hma, fun t2 H5 s5 _ ht2 => ?_⟩
        have s5' := s4.trans s5
        have hbl : (m.mach.begun ps z).length ≤ 100 := Nat.le_trans (Mach.begun_len _ _ _) hma
        walk_at "r"
        refine ⟨b, t2, m, _, rfl, hm.mono s5', ht2, hbl, fun H6 s6 => ?_⟩
        have hd : ns.drop i = z :: ns.drop (i + 1) := by
          have hil := List.getElem?_eq_some_iff.mp hz
          rw [List.drop_eq_getElem_cons hil.1, hil.2]
        rw [hd, quietN] at hq
        walk_at "r"
        cases hdn : m.mach.done (m.mach.begun ps z) with
        | true =>
          walk_at "r"
          rw [hdn] at hq
          have := k H6 (s5'.trans s6)
          rw [hq] at this
          exact this
        | false =>
          walk_at "r"
          rw [hdn] at hq
          exact ⟨t2, _, _, s5'.trans s6, s6 _ _ ht2, hbl, hq, rfl⟩
      · rintro σ H4 ⟨t, ps, y, s4, ht, hps, hq, rfl⟩
        rw [List.drop_of_length_le (by rw [List.length_map]; exact Nat.le_refl _)] at hq
        walk_at "r"
        have := k H4 s4
        rw [hq] at this
        exact this
abbrev st__law_is_run : Stmt := topS 94
abbrev N__law_is_run : List Str := ["_law_parts", "_law_start", "_law_ends_here", "_law_lanes_here", "_law_post", "_law_told_here", "_law_lane"]
theorem sc__law_is_run : FnScope N__law_is_run ["_law_parts", "_law_start", "_law_ends_here", "_law_lanes_here"] (defScope st__law_is_run) := ⟨rfl, rfl, rfl, by decide +kernel, rfl, by decide +kernel, by decide +kernel⟩
theorem ok__law_is_run (T : Top K mg) (F : Dn K mg "_law_is_run" st__law_is_run) (c__law_ends : Cal P w K mg base 1 "_law_ends" spEndsL) : Cal P w K mg base 2 "_law_is_run" spIsRun := by
  refine F.cal sc__law_is_run (fun vs H Q E h => ?_) (fun _ _ _ _ _ _ us hl => match us, hl with | [_, _, _, _], _ => rfl) (fun f cdv A outer s H vs Q E hr h => ?_)
  · obtain ⟨q, e, a, start, z, ends, R, G, posts, lanes, rfl, _⟩ := h
    rfl
  · obtain ⟨q, e, a, start, z, ends, R, G, posts, lanes, rfl, sg, hparts, hnd, h8, he, ha, hR, hz, k⟩ := h
    refine ⟨_, (pss_cons (ps_set (i := 4) sc__law_is_run.nd rfl (Or.inl rfl) (pv 1))
  (pss_cons (ps_set (i := 5) sc__law_is_run.nd rfl (Or.inl rfl) (C8.pe_c c__law_ends hr (by omega) rfl (pa_cons (pv 0) pa_nil)))
  (pss_cons (ps_for PassesOwn.never rfl (pi_list (pv 3)) (pg_name (i := 6) sc__law_is_run.nd rfl (Or.inl rfl)) (pss_cons (ps_if (PW.pt (pw_or (pt_cmp (pc_dnotin (hu1 hr) (pv 6) (pv 5)) rfl) (pw_or1 (pt_cmpR op_ne (pe_ix ix_tup (pe_dget (hu1 hr) (pv 5) (pv 6) (fun _ _ => rfl)) pe_int (fun _ _ => rfl)) (pv 4) (nomark _))))) (pss_one (ps_ret pe_bl)) pss_nil)
  (pss_one (ps_set (i := 4) sc__law_is_run.nd rfl (Or.inl rfl) (pe_ix ix_tup (pe_dget (hu1 hr) (pv 5) (pv 6) (fun _ _ => rfl)) pe_int (fun _ _ => rfl))))))
  (pss_one (ps_ret (pe_cmpR op_in_seq (pv 4) (pv 2) (by rfl))))))), ?_⟩
    walk_at "r"
    refine ⟨q, G, posts, lanes, rfl, sg, hparts, hnd, h8, fun d kvs G1 H1 g hd0 hdG hd hk => ?_⟩
    walk_at "r"
    have g' := g
    refine ⟨a, rfl, ⟨_, .inl (.inl (g.at (g.gg _ _ ha)))⟩, ?_⟩
    refine for_it (walk_list (xs := (R.map (·.1)).map V.str)) (fun i σ H' => ∃ (p : Str) (y : Option V), H' = H1 ∧ walk p (R.drop i) = some z ∧ σ = [some (.ref q), some (.str start), some (.ref e), some (.ref a), some (.str p), some (.ref d), y])
      ⟨start, _, rfl, hR.2, rfl⟩ (fun i σ H' _ ⟨_, _, h, _⟩ => .inl (.inl (h ▸ g.at (g.gg _ _ ha)))) ?_ ?_
    · rintro i v σ H2' H2 hi ⟨p, y, rfl, hw, rfl⟩ ⟨rfl, hx⟩
      rw [List.getElem?_map, List.getElem?_map] at hx
      obtain ⟨nm, h1, rfl⟩ := Option.map_eq_some_iff.mp hx
      obtain ⟨ln, hln, rfl⟩ := Option.map_eq_some_iff.mp h1
      have hm : ln ∈ lanes := hR.1 ln (List.mem_of_getElem? hln)
      have hdr : R.drop i = ln :: R.drop (i + 1) := by
        have hil := List.getElem?_eq_some_iff.mp hln
        rw [List.drop_eq_getElem_cons hil.1, hil.2]
      rw [hdr, walk] at hw
      have c : ln.2.1 = p := by
        by_cases c : ln.2.1 = p
        · exact c
        · rw [if_neg c] at hw; cases hw
      rw [if_pos c] at hw
      obtain ⟨t, ht, htt⟩ := endv_get hk hnd hm
      walk_at "r"
      refine ⟨d, _, rfl, DGet.k (k := nk ln.1) hd, ?_⟩
      walk_at "r"
      rw [ht]
      refine r_no rfl ?_
      walk_at "r"
      refine ⟨d, _, rfl, by rw [← ht]; exact DGet.k (k := nk ln.1) hd, ?_⟩
      walk_at "r"
      refine r_ixT (j := 0) (g.at htt) rfl ?_
      walk_at "r"
      refine ⟨rfl, ?_⟩
      walk_at "r"
      rw [c]
      refine r_no (by simp) ?_
      walk_at "r"
      refine ⟨d, _, rfl, by rw [← ht]; exact DGet.k (k := nk ln.1) hd, ?_⟩
      walk_at "r"
      refine r_ixT (j := 1) (g.at htt) rfl ?_
      walk_at "r"
      exact ⟨ln.2.2, _, rfl, hw, rfl⟩
    · rintro σ H2 ⟨p, y, rfl, hw, rfl⟩
      rw [List.drop_of_length_le (by rw [List.length_map, List.length_map]; exact Nat.le_refl _)] at hw
      cases Option.some.inj hw
      walk_at "r"
      refine r_inS (ks := ends) (.inl (.inl (.inl (g.at (g.gg _ _ he))))) ?_
      rw [decide_eq_true hz]
      exact k _ g.same
abbrev st__law_used : Stmt := topS 95
abbrev N__law_used : List Str := ["_law_parts", "_law_start", "_law_ends_here", "_law_ahead", "_law_found", "_law_lane", "_law_first", "_law_second", "_law_behind", "_law_post"]
theorem sc__law_used : FnScope N__law_used ["_law_parts", "_law_start", "_law_ends_here"] (defScope st__law_used) := ⟨rfl, rfl, rfl, by decide +kernel, rfl, by decide +kernel, by decide +kernel⟩
theorem ok__law_used (T : Top K mg) (F : Dn K mg "_law_used" st__law_used) (c__law_ways : Cal P w K mg base 1 "_law_ways" spWays) : Cal P w K mg base 2 "_law_used" spUsed := by
  refine F.cal sc__law_used (fun vs H Q E h => ?_) (fun _ _ _ _ _ _ us hl => match us, hl with | [_, _, _], _ => rfl) (fun f cdv A outer s H vs Q E hr h => ?_)
  · obtain ⟨q, e, start, ends, G, posts, lanes, rfl, _⟩ := h
    rfl
  · obtain ⟨q, e, start, ends, G, posts, lanes, rfl, sg, hparts, h8, he, hen, he10, k⟩ := h
    obtain ⟨a, b, rows, hq, hP, hb, hrows⟩ := hparts.ex
    refine ⟨_, (pss_cons (ps_set (i := 3) sc__law_used.nd rfl (Or.inl rfl) (C8.pe_c c__law_ways hr (by omega) rfl (pa_cons (pv 0) (pa_cons (pv 1) pa_nil))))
  (pss_cons (ps_set (i := 4) sc__law_used.nd rfl (Or.inl rfl) (pe_lst pa_nil))
  (pss_cons (ps_for PassesOwn.never rfl (pi_list (pe_ix ix_list (pv 0) pe_int (fun _ _ => rfl))) (pg_tup rfl (pgs_cons (pg_name (i := 5) sc__law_used.nd rfl (Or.inl rfl)) (pgs_cons (pg_name (i := 6) sc__law_used.nd rfl (Or.inl rfl)) (pgs_cons (pg_name (i := 7) sc__law_used.nd rfl (Or.inl rfl)) pgs_nil)))) (pss_cons (ps_set (i := 8) sc__law_used.nd rfl (Or.inr rfl) (C8.pe_c c__law_ways hr (by omega) rfl (pa_cons (pv 0) (pa_cons (pv 7) pa_nil))))
  (pss_one (ps_if (PW.pt (pw_and (pt_cmp (pc_din (hu1 hr) (pv 6) (pv 3)) rfl) (pw_and1 (pt_cmpR (op_neD hr.units) (pe_lc (own := [("_law_post", 9)]) (g := (gName 9)) rfl sc__law_used.nd (pi_list (pv 2)) (blkOk_by (N := N__law_used) (sc := defScope st__law_used) (by decide +kernel)) (fun _ _ _ _ _ => (pg_name (i := 9) sc__law_used.nd rfl (Or.inl rfl))) (fun _ _ _ _ _ => (pts_one (pt_cmp (pc_din (hu1 hr) (pv 9) (pv 8)) rfl))) (fun _ _ _ _ _ => (pv 9))) (pe_lst pa_nil) (nomark _))))) (pss_one (ps_expr (pe_bm PySem.F.plainAttrs_list PySem.F.slot_list_append PySem.F.type_list_append mt_append (pv 4) (pa_cons (pv 5) pa_nil)))) pss_nil))))
  (pss_one (ps_ret (pv 4)))))), ?_⟩
    walk_at "r"
    refine ⟨q, start, G, posts, lanes, rfl, sg, hparts, h8, fun d kvs G1 H1 g hd hk => ?_⟩
    walk_at "r"
    refine h_lst rfl fun Lf H2 s2 hLf hLf1 => ?_
    have hLf0 := g.freeN hLf1
    have hLG := g.free1 hLf1
    have g := g.heap s2
    walk_at "r"
    refine r_ixL (j := 1) (g.at (g.gg _ _ hq)) rfl ?_
    refine ⟨b, rfl, ⟨_, .inl (.inl (g.at (g.gg _ _ hb)))⟩, ?_⟩
    refine for_it (walk_list (xs := rows)) (fun i σ H' => ∃ (G' : Hp) (us : List (Lane Str)) (y5 y6 y7 y8 y9 : Option V), Grow no G H G' H' ∧ G' Lf = none ∧ Same G1 G' ∧ StrL H' Lf (us.map (·.1)) ∧ us.length ≤ i ∧ (∀ u ∈ us, Used lanes start ends u) ∧
      σ = [some (.ref q), some (.str start), some (.ref e), some (.ref d), some (.ref Lf), y5, y6, y7, y8, y9]) ⟨G1, [], _, _, _, _, _, g, hLG, Same.refl _, hLf, Nat.le_refl _, by simp, rfl⟩ (fun i σ H' _ ⟨_, _, _, _, _, _, _, g, _⟩ => .inl (.inl (g.at (g.gg _ _ hb)))) ?_ ?_
    · rintro i v σ H3' H3 hi ⟨G3, us, y5, y6, y7, y8, y9, g, hLG, s13, hLf, hul, hus, rfl⟩ ⟨rfl, hx⟩
      obtain ⟨ln, hln, t, rfl, ht⟩ := hrows.at hx
      have hm : ln ∈ lanes := List.mem_of_getElem? hln
      have hi8 : i < 8 := by
        have := (List.getElem?_eq_some_iff.mp hln).1
        omega
      refine r_gtup (g.at (g.gg _ _ ht)) rfl ?_
      walk_at "r"
      refine ⟨q, ln.2.2, G3, posts, lanes, rfl, g.gh, hparts.mono g.gg, h8, fun d2 kvs2 G4 H4 e4 hd2 hk2 => ?_⟩
      have hLf : StrL H4 Lf (us.map (·.1)) := e4.same _ _ hLf
      have hLG := e4.new Lf hLG (by rw [show H3 Lf = _ from by assumption]; intro z; cases z)
      have g := g.trans e4
      have s14 := s13.trans e4.gg
      walk_at "r"
      refine ⟨d, _, rfl, DGet.k (k := nk ln.2.1) (g.at (s14 _ _ hd)), ?_⟩
      walk_at "r"
      by_cases c1 : Conn lanes start ln.2.1
      · refine r_yes ((hk.conn _).mpr c1) ?_
        walk_at "r"
        refine ⟨e, rfl, ⟨_, .inl (.inl (g.at (g.gg _ _ he)))⟩, fun Dl hD => ?_⟩
        have hLD : Lf ≠ Dl := fun z => by rw [← z, hLf] at hD; cases hD
        refine lc_it (walk_list (xs := ends.map V.str)) (fun j H' => Same H4 H' ∧ ∃ zs : List Str, StrL H' Dl zs ∧ zs.length ≤ j ∧ ∀ z ∈ zs, z ∈ ends ∧ Conn lanes ln.2.2 z) ⟨same_upd hD, [], upd_same, Nat.le_refl _, by simp⟩ (fun _ _ _ h => .inl (.inl (h.1 _ _ (g.at (g.gg _ _ he))))) ?_ ?_
        · rintro j v H5' H5 hj ⟨s5, zs, hDl, hzl, hzs⟩ ⟨rfl, hx⟩
          rw [List.length_map] at hj
          rw [List.getElem?_map] at hx
          obtain ⟨z, hz, rfl⟩ := Option.map_eq_some_iff.mp hx
          walk_at "r"
          refine ⟨rfl, ?_⟩
          walk_at "r"
          refine ⟨d2, _, rfl, DGet.k (k := nk z) (s5 _ _ (g.at hd2)), ?_⟩
          walk_at "r"
          by_cases c2 : Conn lanes ln.2.2 z
          · refine r_yes ((hk2.conn _).mpr c2) ?_
            walk_at "r"
            refine ⟨_, hDl, by rw [List.length_map]; exact small_lt (by omega), s5.upd_mut hD, zs ++ [z], by show upd _ _ _ _ = _; rw [upd_same, List.map_append]; rfl, by rw [List.length_append]; show _ + 1 ≤ _; omega, ?_⟩
            intro y hy
            rcases List.mem_append.mp hy with hy | hy
            · exact hzs y hy
            · rw [List.mem_singleton.mp hy]; exact ⟨List.mem_of_getElem? hz, c2⟩
          · refine r_no (eq_false_of_ne_true fun h => c2 ((hk2.conn _).mp h)) ?_
            exact ⟨s5, zs, hDl, by omega, hzs⟩
        · rintro H5 ⟨s5, zs, hDl, hzl, hzs⟩
          walk_at "r"
          refine h_lst rfl fun n0 H6 s6 hn0 _ => ?_
          have g := (g.heap s5).heap s6
          have hLf : StrL H6 Lf (us.map (·.1)) := s6 _ _ (s5 _ _ hLf)
          refine r_neNilS (zs := zs) (s6 _ _ hDl) (fun z hz => hen z (hzs z hz).1) hn0 ?_
          walk_at "r"
          cases zs with
          | nil =>
            walk_at "r"
            exact ⟨G4, us, _, _, _, _, _, g, hLG, s14, hLf, by omega, hus, rfl⟩
          | cons z zs =>
            refine r_yes rfl ?_
            walk_at "r"
            refine r_tyL hLf ?_
            walk_at "r"
            refine r_app hLf (by rw [List.length_map, List.length_map]; exact small_lt (by omega)) ?_
            refine ⟨G4, us ++ [ln], _, _, _, _, _, g.mut hLG (.inl hLf0), hLG, s14, by show upd _ _ _ _ = _; rw [upd_same, List.map_append, List.map_append]; rfl, by rw [List.length_append]; show _ + 1 ≤ _; omega, ?_, rfl⟩
            intro u hu
            rcases List.mem_append.mp hu with hu | hu
            · exact hus u hu
            · rw [List.mem_singleton.mp hu]
              exact ⟨hm, c1, z, (hzs z List.mem_cons_self).1, (hzs z List.mem_cons_self).2⟩
      · refine r_no (eq_false_of_ne_true fun h => c1 ((hk.conn _).mp h)) ?_
        walk_at "r"
        exact ⟨G4, us, _, _, _, _, _, g, hLG, s14, hLf, by omega, hus, rfl⟩
    · rintro σ H3 ⟨G3, us, y5, y6, y7, y8, y9, g, hLG, s13, hLf, hul, hus, rfl⟩
      walk_at "r"
      have := hrows.1
      exact k Lf us H3 g.same hLf0 hLf (by omega) hus
end
end K48
/-! ## KD10 -/
set_option maxHeartbeats 4000000
namespace K48
open PySem L2
local macro_rules | `(tactic| walk_at "r1") => `(tactic| first
  | with_reducible refine r_seq ?_ | with_reducible refine r_asg ?_ | with_reducible refine r_ret ?_ | with_reducible refine r_drop ?_ | with_reducible refine r_if ?_ | with_reducible refine r_next ?_
  | with_reducible refine r_name ?_ | with_reducible refine r_c ?_ | ((with_reducible show tVar _ _ _ _); refine r_var rfl ?_) | with_reducible refine r_op ?_ | with_reducible refine r_un ?_
  | with_reducible refine r_i0 ?_ | with_reducible refine r_test ?_ | with_reducible refine r_tB ?_ | with_reducible refine r_bl ?_ | with_reducible refine r_and ?_ | with_reducible refine r_or ?_
  | with_reducible refine r_not ?_ | with_reducible refine r_ifE ?_ | with_reducible refine r_cons ?_ | with_reducible refine r_nil ?_ | with_reducible refine r_cb ?_ | with_reducible refine r_call ?_
  | with_reducible refine r_lstG ?_ | with_reducible refine r_tupG ?_ | with_reducible refine r_sl ?_ | with_reducible refine r_noP ?_ | with_reducible refine r_part ?_ | with_reducible refine r_exI ?_
  | with_reducible refine r_tr ?_ | with_reducible refine r_fa ?_ | with_reducible refine r_for ?_ | with_reducible refine r_iList ?_ | with_reducible refine r_iTup ?_ | with_reducible refine r_iStr ?_
  | with_reducible refine r_iR1 ?_ | with_reducible refine r_iR2 ?_ | with_reducible refine r_lc ?_ | with_reducible refine r_nt ?_ | with_reducible refine r_nf ?_ | with_reducible refine r_orV ?_ | with_reducible refine r_andV ?_ | with_reducible refine r_yesT ?_ | with_reducible refine r_gsub ?_ | with_reducible refine r_gcons ?_ | with_reducible refine r_gnil ?_ | with_reducible refine r_bm ?_ | with_reducible refine r_bm0 ?_
  | with_reducible refine r_fldG ?_ | with_reducible refine r_sfldG ?_ | with_reducible refine r_meth ?_ | with_reducible refine r_make ?_ | with_reducible refine r_dget ?_ | with_reducible refine r_din ?_ | with_reducible refine r_dnin ?_ | with_reducible refine r_dput ?_
  | with_reducible refine r_dgetN ?_ | with_reducible refine r_dinN ?_ | with_reducible refine r_dninN ?_ | with_reducible refine r_dputN ?_ | ((with_reducible show tAug _ _ _ _ _ _); refine r_aug rfl ?_) | with_reducible refine r_par ?_ | with_reducible refine r_neg ?_ | with_reducible refine r_iEnum ?_ | with_reducible refine r_iZip ?_ | with_reducible refine r_iZipA ?_)
local macro_rules | `(tactic| walk_at "r") => `(tactic| repeat walk_at "r1")

theorem r_ifB {tt : TT} {t u : TS} {D : Ends} {σ : St} {H H1 : Hp} (b : Bool) (htt : ∀ R : Bool → Hp → Prop, R b H1 → tt σ H R) (k : if b = true then t D σ H1 else u D σ H1) : tIfS tt t u D σ H := htt _ k
/-- a tree as the law draws it -/
def TreeOk : PTree Str → Prop
  | .any ns => ns ≠ [] ∧ ns.length ≤ 3 ∧ ∀ z ∈ ns, IsNm z
  | .non ns => ns.length ≤ 3 ∧ ∀ z ∈ ns, IsNm z
  | .rep t => TreeOk t
  | .opt t => TreeOk t
  | .either a b => TreeOk a ∧ TreeOk b
  | .join a b => TreeOk a ∧ TreeOk b
theorem Dg.grow' {p : Addr} {n : Nat} {G H G1 H1 G2 H2 : Hp} (d : Dg p n G H G1 H1) (e : Grow no G1 H1 G2 H2) : Dg p n G H G2 H2 := d.grow e
def spTree (D : Nat) : Sp := fun vs H Q _ => ∃ (p a : Addr) (ns : List Str) (k n : Nat) (G : Hp), vs = [.ref p, .ref a, .int (k : Nat)] ∧ Same G H ∧ G p = none ∧ Pl H p n ∧ n + 20 * 4 ^ k ≤ 500000000000 ∧ StrL G a ns ∧ ns ≠ [] ∧ ns.length ≤ 8 ∧ (∀ z ∈ ns, IsNm z) ∧ k < D ∧ k ≤ 2 ∧
  ∀ (v : V) (t : PTree Str) (G' H' : Hp), Dg p (n + 20 * 4 ^ k) G H G' H' → TreeAt G' true t v → TreeOk t → t.depth ≤ k → t.leaves ≤ 2 ^ k → Q v H'
def spStretch : Sp := fun vs H Q _ => ∃ (p q : Addr) (G : Hp) (posts : List Str) (lanes : List (Lane Str)) (n : Nat), vs = [V.ref p, V.ref q, .int 5] ∧ Same G H ∧ G p = none ∧ Pl H p n ∧ n ≤ 500000000000 ∧ PartsAt G q posts lanes ∧ NetD posts lanes ∧ lanes ≠ [] ∧
  ∀ (r : Addr) (ns : List Str) (G' H' : Hp), Dg p (n + 100) G H G' H' → StrL G' r ns → ns ≠ [] → ns.length ≤ 5 → (∀ z ∈ ns, z ∈ lanes.map (·.1)) → Q (.ref r) H'
section
variable {P : Program} {w : World} {K : PySem.W.Frag} {mg : Str → Option Value} {base : Heap}
abbrev st__law_tree : Stmt := topS 83
abbrev N__law_tree : List Str := ["_law_pool_here", "_law_lanes_here", "_law_depth", "_law_kind", "_law_many_here", "_law_k", "_law_some", "_law_one", "_law_two"]
theorem sc__law_tree : FnScope N__law_tree ["_law_pool_here", "_law_lanes_here", "_law_depth"] (defScope st__law_tree) := ⟨rfl, rfl, rfl, by decide +kernel, rfl, by decide +kernel, by decide +kernel⟩
theorem ok__law_tree (T : Top K mg) (F : Dn K mg "_law_tree" st__law_tree) (c__law_take : Cal P w K mg base 1 "_law_take" spTake) : ∀ D, Cal P w K mg base (D + 2) "_law_tree" (spTree D) := by
  intro D
  induction D with
  | zero =>
    refine F.cal sc__law_tree (fun vs H Q E h => ?_) (fun _ _ _ _ _ _ us hl => match us, hl with | [_, _, _], _ => rfl) (fun f cdv A outer s H vs Q E hr h => ?_)
    · obtain ⟨p, a, ns, k, n, G, rfl, _⟩ := h
      rfl
    · obtain ⟨p, a, ns, k, n, G, rfl, _, _, _, _, _, _, _, _, h, _⟩ := h
      exact absurd h (Nat.not_lt_zero _)
  | succ D c__law_tree =>
    refine F.cal sc__law_tree (fun vs H Q E h => ?_) (fun _ _ _ _ _ _ us hl => match us, hl with | [_, _, _], _ => rfl) (fun f cdv A outer s H vs Q E hr h => ?_)
    · obtain ⟨p, a, ns, k, n, G, rfl, _⟩ := h
      rfl
    · obtain ⟨p, a, ns, k, n, G, rfl, sg, gp, hp, hn, ha, h0, h8, hnm, hk, hk2, q⟩ := h
      have p40 : 0 < 4 ^ k := Nat.pow_pos (by decide)
      have d := Dg.refl sg hp gp
      have hlen : 0 < ns.length := List.length_pos_iff.mpr h0
      refine ⟨_, (pss_cons (ps_set (i := 3) sc__law_tree.nd rfl (Or.inl rfl) (C8.pe_c c__law_take hr (by omega) rfl (pa_cons (pv 0) (pa_cons pe_int pa_nil))))
  (pss_cons (ps_if (PW.pt (pw_or (pt_cmpR op_eq (pv 2) pe_int (nomark _)) (pw_or1 (pt_cmpR op_lt (pv 3) pe_int (nomark _))))) (pss_cons (ps_set (i := 4) sc__law_tree.nd rfl (Or.inl rfl) (pe_op op_add pe_int (pe_op op_mul (C8.pe_c c__law_take hr (by omega) rfl (pa_cons (pv 0) (pa_cons pe_int pa_nil))) (C8.pe_c c__law_take hr (by omega) rfl (pa_cons (pv 0) (pa_cons pe_int pa_nil))))))
  (pss_cons (ps_setLc (i := 6) (own := [("_law_k", 5)]) (g := (gName 5)) (tt := tYes) rfl sc__law_tree.nd rfl rfl (sw_true rfl rfl rfl (by decide +kernel)) (pi_range1 rfl T.b_range (pa_cons (pv 4) pa_nil)) (blkOk_by (N := N__law_tree) (sc := defScope st__law_tree) (by decide +kernel)) (fun _ _ _ _ _ => (pg_name (i := 5) sc__law_tree.nd rfl (Or.inl rfl))) (fun _ _ _ _ _ => pts_nil) (fun _ _ _ _ _ => (pe_ix (ix_list : IxR _ (rIxL K)) (pv 1) (C8.pe_c c__law_take hr (by omega) rfl (pa_cons (pv 0) (pa_cons (pe_callB (call_len_seq : CallR _ _ (rLenQ K)) rfl T.b_len (by decide +kernel) (pa_cons (pv 1) pa_nil)) pa_nil))) (fun _ _ => rfl))))
  (pss_cons (ps_if (pt_cmpR op_gt (C8.pe_c c__law_take hr (by omega) rfl (pa_cons (pv 0) (pa_cons pe_int pa_nil))) pe_int (nomark _)) (pss_one (ps_ret (pe_tup (pa_cons pe_str (pa_cons (pv 6) pa_nil))))) pss_nil)
  (pss_one (ps_ret (pe_tup (pa_cons pe_str (pa_cons (pe_slice sl_list (pv 6) (po_some (C8.pe_c c__law_take hr (by omega) rfl (pa_cons (pv 0) (pa_cons pe_int pa_nil)))) po_none) pa_nil)))))))) pss_nil)
  (pss_cons (ps_set (i := 7) sc__law_tree.nd rfl (Or.inl rfl) (C8.pe_c c__law_tree hr (by omega) rfl (pa_cons (pv 0) (pa_cons (pv 1) (pa_cons (pe_op op_sub (pv 2) pe_int) pa_nil)))))
  (pss_cons (ps_if (pt_cmpR op_eq (pv 3) pe_int (nomark _)) (pss_one (ps_ret (pe_tup (pa_cons pe_str (pa_cons (pv 7) pa_nil))))) pss_nil)
  (pss_cons (ps_if (pt_cmpR op_eq (pv 3) pe_int (nomark _)) (pss_one (ps_ret (pe_tup (pa_cons pe_str (pa_cons (pv 7) pa_nil))))) pss_nil)
  (pss_cons (ps_set (i := 8) sc__law_tree.nd rfl (Or.inl rfl) (C8.pe_c c__law_tree hr (by omega) rfl (pa_cons (pv 0) (pa_cons (pv 1) (pa_cons (pe_op op_sub (pv 2) pe_int) pa_nil)))))
  (pss_cons (ps_if (pt_cmpR op_eq (pv 3) pe_int (nomark _)) (pss_one (ps_ret (pe_tup (pa_cons pe_str (pa_cons (pv 7) (pa_cons (pv 8) pa_nil)))))) pss_nil)
  (pss_one (ps_ret (pe_tup (pa_cons pe_str (pa_cons (pv 7) (pa_cons (pv 8) pa_nil))))))))))))), ?_⟩
      have atom : ∀ (R : St → Hp → Prop) (kd : Nat), kd < 8 → ∀ (H1 : Hp), Dg p (n + 1) G H G H1 → True := fun _ _ _ _ _ => trivial
      walk_at "r"
      refine r_tk (mm := 8) d (by decide) (by decide) (by omega) fun kd o hkd d => ?_
      revert d
      generalize upd H p o = H1
      intro d
      refine r_name ?_
      with_reducible show tSeq _ _ _ _ _
      refine r_seqC (fun σ H' => H' = H1 ∧ 0 < k ∧ σ = [some (.ref p), some (.ref a), some (.int (k : Nat)), some (.int (kd : Nat)), none, none, none, none, none]) ?_ ?_
      · rintro σ H' ⟨rfl, hk0, rfl⟩
        have e4 : 4 ^ k = 4 * 4 ^ (k - 1) := by rw [← Nat.pow_succ']; congr 1; omega
        have e2 : 2 ^ k = 2 * 2 ^ (k - 1) := by rw [← Nat.pow_succ']; congr 1; omega
        have b4 : 4 ^ k ≤ 16 := Nat.pow_le_pow_right (by decide) hk2
        have p4 : 0 < 4 ^ (k - 1) := Nat.pow_pos (by decide)
        walk_at "r"
        refine ⟨p, a, ns, k - 1, n + 1, G, by rw [show (((k - 1 : Nat) : Int)) = (k : Int) - 1 by omega], d.gr.gh, d.gp, d.pl, by omega, ha, h0, h8, hnm, by omega, by omega, fun v1 t1 G2 H2 d2 ht1 ho1 hd1 hl1 => ?_⟩
        have d := d.trans d2
        walk_at "r"
        refine r_eq rfl ?_
        walk_at "r"
        by_cases c2 : decide (V.int (kd : Int) = V.int 2) = true
        · refine r_yes c2 ?_
          walk_at "r"
          refine e_tup d.gr.gh rfl fun t G3 H3 e3 htt _ => ?_
          exact q _ (.rep t1) G3 H3 ((d.grow e3).mono (by omega)) ⟨t, v1, rfl, htt, ht1.mono e3.gg⟩ ho1 (by show t1.depth + 1 ≤ k; omega) (by show t1.leaves ≤ _; omega)
        · refine r_no (eq_false_of_ne_true c2) ?_
          walk_at "r"
          refine r_eq rfl ?_
          walk_at "r"
          by_cases c3 : decide (V.int (kd : Int) = V.int 3) = true
          · refine r_yes c3 ?_
            walk_at "r"
            refine e_tup d.gr.gh rfl fun t G3 H3 e3 htt _ => ?_
            exact q _ (.opt t1) G3 H3 ((d.grow e3).mono (by omega)) ⟨t, v1, rfl, htt, ht1.mono e3.gg⟩ ho1 (by show t1.depth + 1 ≤ k; omega) (by show t1.leaves ≤ _; omega)
          · refine r_no (eq_false_of_ne_true c3) ?_
            walk_at "r"
            refine ⟨p, a, ns, k - 1, _, G2, by rw [show (((k - 1 : Nat) : Int)) = (k : Int) - 1 by omega], d.gr.gh, d.gp, d.pl, by omega, d.gr.gg _ _ ha, h0, h8, hnm, by omega, by omega, fun v2 t2 G3 H3 d3 ht2 ho2 hd2 hl2 => ?_⟩
            have d := d.trans d3
            walk_at "r"
            refine r_eq rfl ?_
            walk_at "r"
            by_cases c4 : decide (V.int (kd : Int) = V.int 4) = true
            · refine r_yes c4 ?_
              walk_at "r"
              refine e_tup d.gr.gh rfl fun t G4 H4 e4 htt _ => ?_
              exact q _ (.either t1 t2) G4 H4 ((d.grow e4).mono (by omega)) ⟨t, v1, v2, rfl, htt, ht1.mono (d3.gr.gg.trans e4.gg), ht2.mono e4.gg⟩ ⟨ho1, ho2⟩ (by show max t1.depth t2.depth + 1 ≤ k; omega) (by show t1.leaves + t2.leaves ≤ _; omega)
            · refine r_no (eq_false_of_ne_true c4) ?_
              walk_at "r"
              refine e_tup d.gr.gh rfl fun t G4 H4 e4 htt _ => ?_
              exact q _ (.join t1 t2) G4 H4 ((d.grow e4).mono (by omega)) ⟨t, v1, v2, rfl, htt, ht1.mono (d3.gr.gg.trans e4.gg), ht2.mono e4.gg⟩ ⟨ho1, ho2⟩ (by show max t1.depth t2.depth + 1 ≤ k; omega) (by show t1.leaves + t2.leaves ≤ _; omega)
      · intro R hR
        have p4 : 0 < 4 ^ k := Nat.pow_pos (by decide)
        have p2 : 0 < 2 ^ k := Nat.pow_pos (by decide)
        refine r_ifB (decide (k = 0 ∨ kd < 2)) (H1 := H1) (fun R' hR' => ?_) ?_
        · walk_at "r"
          refine r_eq rfl ?_
          walk_at "r"
          by_cases c1 : k = 0
          · refine r_yes (decide_eq_true (by rw [c1]; rfl)) ?_
            rw [decide_eq_true (.inl c1)] at hR'
            exact hR'
          · refine r_no (decide_eq_false fun z => c1 (by have := V.int.inj z; omega)) ?_
            walk_at "r"
            have e : decide ((kd : Int) < 2) = decide (k = 0 ∨ kd < 2) := decide_eq_decide.mpr ⟨fun z => .inr (by omega), fun z => by rcases z with z | z <;> omega⟩
            rw [e]
            exact hR'
        by_cases ca : k = 0 ∨ kd < 2
        · rw [decide_eq_true ca]
          walk_at "r"
          refine r_tk (mm := 2) d (by decide) (by decide) (by omega) fun m1 o1 hm1 d => ?_
          walk_at "r"
          refine r_tk (mm := 2) d (by decide) (by decide) (by omega) fun m2 o2 hm2 d => ?_
          walk_at "r"
          refine r_i (.inl ⟨by omega, by omega⟩) ?_
          walk_at "r"
          have hmm : ∃ mm : Nat, (1 : Int) + (m1 : Int) * (m2 : Int) = (mm : Nat) ∧ 1 ≤ mm ∧ mm ≤ 2 := by
            have : m1 * m2 ≤ 1 * 1 := Nat.mul_le_mul (by omega) (by omega)
            exact ⟨1 + m1 * m2, by rw [Int.natCast_add, Int.natCast_mul]; rfl, by omega, by omega⟩
          obtain ⟨mm, emm, hmm1, hmm2⟩ := hmm
          rw [emm]
          refine ⟨_, rfl, by omega, by omega, fun Dl hD => ?_⟩
          have hD0 := d.free hD
          have hDG := d.free1 hD
          refine lc_it walk_rng0 (fun i H' => ∃ es : List Str, es.length = i ∧ (∀ z ∈ es, IsNm z) ∧ Dg p (n + 3 + i) G H G H' ∧ StrL H' Dl es) ⟨[], rfl, by simp, d.newH hD, upd_same⟩ (fun _ _ _ _ => trivial) ?_ ?_
          · rintro i x H5' H5 hi ⟨es, hl, hes, d, hDl⟩ ⟨rfl, rfl⟩
            have hi' : i < mm := hi
            walk_at "r"
            refine ⟨rfl, ?_⟩
            walk_at "r"
            refine r_lenQL (d.at ha) ?_
            walk_at "r"
            rw [List.length_map]
            refine r_tk (mm := ns.length) d hlen (by omega) (by omega) fun r4 o4 hr4 d => ?_
            refine r_ixL (d.at ha) (by rw [List.getElem?_map, List.getElem?_eq_getElem hr4]; rfl) ?_
            refine ⟨_, by rw [upd_ne (Ne.symm (d.ne hD0))]; exact hDl, by rw [List.length_map]; exact small_lt (by omega), es ++ [ns[r4]], by rw [List.length_append, hl]; rfl, ?_, d.mut hDG hD0, by show upd _ _ _ _ = _; rw [upd_same, List.map_append]; rfl⟩
            intro z hz
            rcases List.mem_append.mp hz with hz | hz
            · exact hes z hz
            · rw [List.mem_singleton.mp hz]; exact hnm _ (List.getElem_mem _)
          · rintro H5 ⟨es, hl, hes, d, hDl⟩
            have hl' : es.length = mm := hl
            have sG := same_upd (o := .lst (es.map V.str)) hDG
            have d := (d.mono (show n + 3 + (mm : Int).toNat ≤ n + 5 by omega)).tell hDl hD0
            have hDl : StrL (upd G Dl (.lst (es.map V.str))) Dl es := upd_same
            revert d hDl
            generalize upd G Dl (.lst (es.map V.str)) = G2
            intro d hDl
            walk_at "r"
            refine r_tk (mm := 3) d (by decide) (by decide) (by omega) fun m3 o3 hm3 d => ?_
            walk_at "r"
            by_cases c3 : (0 : Int) < m3
            · refine r_yes (decide_eq_true c3) ?_
              walk_at "r"
              refine e_tup d.gr.gh rfl fun t G3 H3 e3 htt _ => ?_
              refine q _ (.any es) G3 H3 ((d.grow e3).mono (by omega)) ⟨t, Dl, rfl, htt, e3.gg _ _ hDl⟩ ⟨fun z => ?_, by omega, hes⟩ (Nat.zero_le _) (by show 1 ≤ _; omega)
              rw [z] at hl'
              simp at hl'
              omega
            · refine r_no (decide_eq_false c3) ?_
              walk_at "r"
              refine r_tk (mm := 2) d (by decide) (by decide) (by omega) fun m4 o4 hm4 d => ?_
              walk_at "r"
              refine e_slL (lo := some ((m4 : Nat) : Int)) (hi := none) d.gr.gh hDl fun l5 G5 H6 e5 hl5 _ => ?_
              have d := d.grow e5
              rw [cut_from, ← List.map_drop] at hl5
              walk_at "r"
              refine e_tup d.gr.gh rfl fun t G3 H3 e3 htt _ => ?_
              exact q _ (.non (es.drop m4)) G3 H3 ((d.grow e3).mono (by omega)) ⟨t, l5, rfl, htt, e3.gg _ _ hl5⟩ ⟨by rw [List.length_drop]; omega, fun z hz => hes z (List.mem_of_mem_drop hz)⟩ (Nat.zero_le _) (by show 1 ≤ _; omega)
        · rw [decide_eq_false ca]
          walk_at "r"
          exact hR _ _ ⟨rfl, by omega, rfl⟩
end
end K48
/-! ## KD11 -/
set_option maxHeartbeats 4000000
namespace K48
open PySem L2
local macro_rules | `(tactic| walk_at "r1") => `(tactic| first
  | with_reducible refine r_seq ?_ | with_reducible refine r_asg ?_ | with_reducible refine r_ret ?_ | with_reducible refine r_drop ?_ | with_reducible refine r_if ?_ | with_reducible refine r_next ?_
  | with_reducible refine r_name ?_ | with_reducible refine r_c ?_ | ((with_reducible show tVar _ _ _ _); refine r_var rfl ?_) | with_reducible refine r_op ?_ | with_reducible refine r_un ?_
  | with_reducible refine r_i0 ?_ | with_reducible refine r_test ?_ | with_reducible refine r_tB ?_ | with_reducible refine r_bl ?_ | with_reducible refine r_and ?_ | with_reducible refine r_or ?_
  | with_reducible refine r_not ?_ | with_reducible refine r_ifE ?_ | with_reducible refine r_cons ?_ | with_reducible refine r_nil ?_ | with_reducible refine r_cb ?_ | with_reducible refine r_call ?_
  | with_reducible refine r_lstG ?_ | with_reducible refine r_tupG ?_ | with_reducible refine r_sl ?_ | with_reducible refine r_noP ?_ | with_reducible refine r_part ?_ | with_reducible refine r_exI ?_
  | with_reducible refine r_tr ?_ | with_reducible refine r_fa ?_ | with_reducible refine r_for ?_ | with_reducible refine r_iList ?_ | with_reducible refine r_iTup ?_ | with_reducible refine r_iStr ?_
  | with_reducible refine r_iR1 ?_ | with_reducible refine r_iR2 ?_ | with_reducible refine r_lc ?_ | with_reducible refine r_nt ?_ | with_reducible refine r_nf ?_ | with_reducible refine r_orV ?_ | with_reducible refine r_andV ?_ | with_reducible refine r_yesT ?_ | with_reducible refine r_gsub ?_ | with_reducible refine r_gcons ?_ | with_reducible refine r_gnil ?_ | with_reducible refine r_bm ?_ | with_reducible refine r_bm0 ?_
  | with_reducible refine r_fldG ?_ | with_reducible refine r_sfldG ?_ | with_reducible refine r_meth ?_ | with_reducible refine r_make ?_ | with_reducible refine r_dget ?_ | with_reducible refine r_din ?_ | with_reducible refine r_dnin ?_ | with_reducible refine r_dput ?_
  | with_reducible refine r_dgetN ?_ | with_reducible refine r_dinN ?_ | with_reducible refine r_dninN ?_ | with_reducible refine r_dputN ?_ | ((with_reducible show tAug _ _ _ _ _ _); refine r_aug rfl ?_) | with_reducible refine r_par ?_ | with_reducible refine r_neg ?_ | with_reducible refine r_iEnum ?_ | with_reducible refine r_iZip ?_ | with_reducible refine r_iZipA ?_)
local macro_rules | `(tactic| walk_at "r") => `(tactic| repeat walk_at "r1")

theorem r_last {K : PySem.W.Frag} {H : Hp} {Q : VK} {a : Addr} {es : List Str} (h : StrL H a es) (h0 : es ≠ []) (k : Q (.str (es.getLast h0)) H) : rIxL K (.ref a) (.int (-1)) H Q := by
  have hne : es.map V.str ≠ [] := fun z => h0 (List.map_eq_nil_iff.mp z)
  refine ⟨a, _, _, _, rfl, rfl, .inl (.inl h), atI_last hne, ?_⟩
  rw [List.getLast_map]
  exact k
section
variable {P : Program} {w : World} {K : PySem.W.Frag} {mg : Str → Option Value} {base : Heap}
abbrev st__law_stretch : Stmt := topS 92
abbrev N__law_stretch : List Str := ["_law_pool_here", "_law_parts", "_law_most", "_law_ends_here", "_law_lanes_here", "_law_told_here", "_law_turn", "_law_lane", "_law_out"]
theorem sc__law_stretch : FnScope N__law_stretch ["_law_pool_here", "_law_parts", "_law_most"] (defScope st__law_stretch) := ⟨rfl, rfl, rfl, by decide +kernel, rfl, by decide +kernel, by decide +kernel⟩
theorem ok__law_stretch (T : Top K mg) (F : Dn K mg "_law_stretch" st__law_stretch) (c__law_take : Cal P w K mg base 1 "_law_take" spTake) (c__law_ends : Cal P w K mg base 1 "_law_ends" spEndsL) (c__law_lanes : Cal P w K mg base 1 "_law_lanes" spLanesL) : Cal P w K mg base 2 "_law_stretch" spStretch := by
  refine F.cal sc__law_stretch (fun vs H Q E h => ?_) (fun _ _ _ _ _ _ us hl => match us, hl with | [_, _, _], _ => rfl) (fun f cdv A outer s H vs Q E hr h => ?_)
  · obtain ⟨p, q, G, posts, lanes, n, rfl, _⟩ := h
    rfl
  · obtain ⟨p, q, G, posts, lanes, n, rfl, sg, gp, hp, hn, hparts, hnet, hl0, k⟩ := h
    have d := Dg.refl sg hp gp
    have hlen : 0 < lanes.length := List.length_pos_iff.mpr hl0
    have h8 := hnet.l8
    refine ⟨_, (pss_cons (ps_set (i := 3) sc__law_stretch.nd rfl (Or.inr rfl) (C8.pe_c c__law_ends hr (by omega) rfl (pa_cons (pv 1) pa_nil)))
  (pss_cons (ps_set (i := 4) sc__law_stretch.nd rfl (Or.inl rfl) (C8.pe_c c__law_lanes hr (by omega) rfl (pa_cons (pv 1) pa_nil)))
  (pss_cons (ps_set (i := 5) sc__law_stretch.nd rfl (Or.inr rfl) (pe_lst (pa_cons (pe_ix ix_list (pv 4) (C8.pe_c c__law_take hr (by omega) rfl (pa_cons (pv 0) (pa_cons (pe_callB (call_len_seq : CallR _ _ (rLenQ K)) rfl T.b_len (by decide +kernel) (pa_cons (pv 4) pa_nil)) pa_nil))) (fun _ _ => rfl)) pa_nil)))
  (pss_cons (ps_for PassesOwn.never rfl (pi_range1 rfl T.b_range (pa_cons (C8.pe_c c__law_take hr (by omega) rfl (pa_cons (pv 0) (pa_cons (pv 2) pa_nil))) pa_nil)) (pg_name (i := 6) sc__law_stretch.nd rfl (Or.inl rfl)) (pss_cons (ps_setLc (i := 8) (own := [("_law_lane", 7)]) (g := (gName 7)) rfl sc__law_stretch.nd rfl rfl (sw_true rfl rfl rfl (by decide +kernel)) (pi_list (pv 4)) (blkOk_by (N := N__law_stretch) (sc := defScope st__law_stretch) (by decide +kernel)) (fun _ _ _ _ _ => (pg_name (i := 7) sc__law_stretch.nd rfl (Or.inl rfl))) (fun _ _ _ _ _ => (pts_one (pt_cmpR op_eq (pe_ix (ix_tup : IxR _ (rIxT K)) (pe_dget (hu1 hr) (pv 3) (pv 7) (fun _ _ => rfl)) pe_int (fun _ _ => rfl)) (pe_ix (ix_tup : IxR _ (rIxT K)) (pe_dget (hu1 hr) (pv 3) (pe_ix (ix_list : IxR _ (rIxL K)) (pv 5) (pe_un un_neg pe_int) (fun _ _ => rfl)) (fun _ _ => rfl)) pe_int (fun _ _ => rfl)) (nomark _)))) (fun _ _ _ _ _ => (pv 7)))
  (pss_one (ps_if (pt_cmpR (op_neD hr.units) (pv 8) (pe_lst pa_nil) (nomark _)) (pss_one (ps_expr (pe_bm PySem.F.plainAttrs_list PySem.F.slot_list_append PySem.F.type_list_append mt_append (pv 5) (pa_cons (pe_ix ix_list (pv 8) (C8.pe_c c__law_take hr (by omega) rfl (pa_cons (pv 0) (pa_cons (pe_callB (call_len_seq : CallR _ _ (rLenQ K)) rfl T.b_len (by decide +kernel) (pa_cons (pv 8) pa_nil)) pa_nil))) (fun _ _ => rfl)) pa_nil)))) pss_nil))))
  (pss_cons (ps_if (pt_cmpR op_eq (C8.pe_c c__law_take hr (by omega) rfl (pa_cons (pv 0) (pa_cons pe_int pa_nil))) pe_int (nomark _)) (pss_one (ps_asg (pe_ix ix_list (pv 4) (C8.pe_c c__law_take hr (by omega) rfl (pa_cons (pv 0) (pa_cons (pe_callB (call_len_seq : CallR _ _ (rLenQ K)) rfl T.b_len (by decide +kernel) (pa_cons (pv 4) pa_nil)) pa_nil))) (fun _ _ => rfl)) (pg_sub (pv 5) (C8.pe_c c__law_take hr (by omega) rfl (pa_cons (pv 0) (pa_cons (pe_callB (call_len_seq : CallR _ _ (rLenQ K)) rfl T.b_len (by decide +kernel) (pa_cons (pv 5) pa_nil)) pa_nil))) set_list))) pss_nil)
  (pss_one (ps_ret (pv 5)))))))), ?_⟩
    walk_at "r"
    refine ⟨q, G, posts, lanes, rfl, sg, hparts, hnet.ln.nd, h8, fun dd kvs G1 H1 g hd0 hdG hd hk => ?_⟩
    have sG := same_upd (o := .dK kvs) hdG
    have d := (d.grow g).tell hd hd0
    have hk := hk.mono fun _ _ => EndV.mono sG
    have hd : upd G1 dd (.dK kvs) dd = some (.dK kvs) := upd_same
    revert d hk hd
    generalize upd G1 dd (.dK kvs) = G2
    intro d hk hd
    walk_at "r"
    refine ⟨q, G2, posts, lanes, rfl, d.gr.gh, hparts.mono d.gr.gg, h8, fun ll H3 s3 hll0 hll => ?_⟩
    have hllG := d.free1 hll0
    have sG := same_upd (o := .lst ((lanes.map (·.1)).map V.str)) hllG
    have hll00 := d.free hll0
    have d := (d.same s3).tell hll hll00
    have hk := hk.mono fun _ _ => EndV.mono sG
    have hd := sG _ _ hd
    have hll : StrL (upd G2 ll (.lst ((lanes.map (·.1)).map V.str))) ll (lanes.map (·.1)) := upd_same
    revert d hk hd hll
    generalize upd G2 ll (.lst ((lanes.map (·.1)).map V.str)) = G3
    intro d hk hd hll
    walk_at "r"
    refine r_lenQL (d.at hll) ?_
    walk_at "r"
    rw [List.length_map, List.length_map]
    refine r_tk (mm := lanes.length) d hlen (by omega) (by omega) fun r1 o1 hr1 d => ?_
    refine r_ixL (d.at hll) (by rw [List.getElem?_map, List.getElem?_map, List.getElem?_eq_getElem hr1]; rfl) ?_
    walk_at "r"
    refine h_lst rfl fun Lt H4 s4 hLt hLt0 => ?_
    have hL0 := d.free hLt0
    have hLG := d.free1 hLt0
    have d := d.same s4
    walk_at "r"
    refine r_tk (mm := 5) d (by decide) (by decide) (by omega) fun r2 o2 hr2 d => ?_
    have hLt : StrL (upd H4 p o2) Lt [lanes[r1].1] := by show upd _ _ _ _ = _; rw [upd_ne (Ne.symm (d.ne hL0))]; exact hLt
    refine ⟨_, rfl, by omega, by omega, ?_⟩
    refine for_it walk_rng0 (fun i σ H' => ∃ (es : List Str) (y6 y7 y8 : Option V), Dg p (n + 2 + i) G H G3 H' ∧ StrL H' Lt es ∧ es ≠ [] ∧ es.length ≤ i + 1 ∧ (∀ z ∈ es, z ∈ lanes.map (·.1)) ∧
      σ = [some (.ref p), some (.ref q), some (.int 5), some (.ref dd), some (.ref ll), some (.ref Lt), y6, y7, y8]) ⟨_, _, _, _, d, hLt, by simp, Nat.le_refl _, fun z hz => by rw [List.mem_singleton.mp hz]; exact List.mem_map.mpr ⟨_, List.getElem_mem hr1, rfl⟩, rfl⟩ (fun _ _ _ _ _ => trivial) ?_ ?_
    · rintro i x σ H5' H5 hi ⟨es, y6, y7, y8, d, hLt, he0, hel, hes, rfl⟩ ⟨rfl, rfl⟩
      have hi' : i < r2 := hi
      walk_at "r"
      refine ⟨ll, rfl, ⟨_, .inl (.inl (d.at hll))⟩, fun Dl hD => ?_⟩
      have hLD : Lt ≠ Dl := fun z => by rw [← z, hLt] at hD; cases hD
      obtain ⟨el, hel1, hel2⟩ := List.mem_map.mp (hes _ (List.getLast_mem he0))
      obtain ⟨tl, htl, htl2⟩ := endv_get hk hnet.ln.nd hel1
      refine lc_it (walk_list (xs := (lanes.map (·.1)).map V.str)) (fun j H' => Same H5 H' ∧ ∃ zs : List Str, StrL H' Dl zs ∧ zs.length ≤ j ∧ ∀ z ∈ zs, z ∈ lanes.map (·.1)) ⟨same_upd hD, [], upd_same, Nat.le_refl _, by simp⟩ (fun _ _ _ h => .inl (.inl (h.1 _ _ (d.at hll)))) ?_ ?_
      · rintro j v H6' H6 hj ⟨s6, zs, hDl, hzl, hzs⟩ ⟨rfl, hx⟩
        rw [List.length_map, List.length_map] at hj
        rw [List.getElem?_map] at hx
        obtain ⟨z, hz, rfl⟩ := Option.map_eq_some_iff.mp hx
        have hzm := List.mem_of_getElem? hz
        obtain ⟨ez, hez, rfl⟩ := List.mem_map.mp hzm
        obtain ⟨tz, htz, htz2⟩ := endv_get hk hnet.ln.nd hez
        walk_at "r"
        refine ⟨rfl, ?_⟩
        walk_at "r"
        refine ⟨dd, _, rfl, by rw [← htz]; exact DGet.k (k := nk ez.1) (s6 _ _ (d.at hd)), ?_⟩
        walk_at "r"
        refine r_ixT (j := 0) (s6 _ _ (d.at htz2)) rfl ?_
        walk_at "r"
        refine r_last (s6 _ _ hLt) he0 ?_
        rw [← hel2]
        refine ⟨dd, _, rfl, by rw [← htl]; exact DGet.k (k := nk el.1) (s6 _ _ (d.at hd)), ?_⟩
        walk_at "r"
        refine r_ixT (j := 1) (s6 _ _ (d.at htl2)) rfl ?_
        walk_at "r"
        refine r_eq rfl ?_
        walk_at "r"
        by_cases c : decide (V.str ez.2.1 = V.str el.2.2) = true
        · refine r_yes c ?_
          walk_at "r"
          refine ⟨_, hDl, by rw [List.length_map]; exact small_lt (by omega), s6.upd_mut hD, zs ++ [ez.1], by show upd _ _ _ _ = _; rw [upd_same, List.map_append]; rfl, by rw [List.length_append]; show _ + 1 ≤ _; omega, ?_⟩
          intro y hy
          rcases List.mem_append.mp hy with hy | hy
          · exact hzs y hy
          · rw [List.mem_singleton.mp hy]; exact hzm
        · refine r_no (eq_false_of_ne_true c) ?_
          exact ⟨s6, zs, hDl, by omega, hzs⟩
      · rintro H6 ⟨s6, zs, hDl, hzl, hzs⟩
        rw [List.length_map, List.length_map] at hzl
        have hLt : StrL H6 Lt es := s6 _ _ hLt
        have hDl0 := d.free hD
        have d := d.same s6
        walk_at "r"
        refine h_lst rfl fun n0 H7 s7 hn0 _ => ?_
        have hDl : StrL H7 Dl zs := s7 _ _ hDl
        have hLt : StrL H7 Lt es := s7 _ _ hLt
        have d := d.same s7
        refine r_neNilS (zs := zs) hDl (fun z hz => hnet.ln.nm z (hzs z hz)) hn0 ?_
        walk_at "r"
        by_cases cz : zs = []
        · refine r_no (by rw [cz]; rfl) ?_
          walk_at "r"
          exact ⟨es, _, _, _, d.mono (by omega), hLt, he0, by omega, hes, rfl⟩
        · refine r_yes (by cases zs with | nil => exact absurd rfl cz | cons _ _ => rfl) ?_
          have hz0 : 0 < zs.length := List.length_pos_iff.mpr cz
          walk_at "r"
          refine r_tyL hLt ?_
          walk_at "r"
          refine r_lenQL hDl ?_
          walk_at "r"
          rw [List.length_map]
          refine r_tk (mm := zs.length) d hz0 (by omega) (by omega) fun r3 o3 hr3 d => ?_
          have hLt : StrL (upd H7 p o3) Lt es := by show upd _ _ _ _ = _; rw [upd_ne (Ne.symm (d.ne hL0))]; exact hLt
          refine r_ixL (xs := zs.map V.str) (by rw [upd_ne (Ne.symm (d.ne hDl0))]; exact hDl) (by rw [List.getElem?_map, List.getElem?_eq_getElem hr3]; rfl) ?_
          walk_at "r"
          refine r_app hLt (by rw [List.length_map]; exact small_lt (by omega)) ?_
          refine ⟨es ++ [zs[r3]], _, _, _, (d.mut hLG hL0).mono (by omega), by show upd _ _ _ _ = _; rw [upd_same, List.map_append]; rfl, by simp, by rw [List.length_append]; show _ + 1 ≤ _; omega, ?_, rfl⟩
          intro y hy
          rcases List.mem_append.mp hy with hy | hy
          · exact hes y hy
          · rw [List.mem_singleton.mp hy]; exact hzs _ (List.getElem_mem _)
    · rintro σ H5 ⟨es, y6, y7, y8, d, hLt, he0, hel, hes, rfl⟩
      have hel' : es.length ≤ 5 := by have : es.length ≤ r2 + 1 := hel; omega
      have d := d.mono (show n + 2 + (r2 : Int).toNat ≤ n + 20 by omega)
      walk_at "r"
      refine r_tk (mm := 8) d (by decide) (by decide) (by omega) fun r3 o3 hr3 d => ?_
      have hLt : StrL (upd H5 p o3) Lt es := by show upd _ _ _ _ = _; rw [upd_ne (Ne.symm (d.ne hL0))]; exact hLt
      walk_at "r"
      refine r_eq rfl ?_
      walk_at "r"
      by_cases c : decide (V.int (r3 : Int) = V.int 0) = true
      · refine r_yes c ?_
        walk_at "r"
        refine r_lenQL (d.at hll) ?_
        walk_at "r"
        rw [List.length_map, List.length_map]
        refine r_tk (mm := lanes.length) d hlen (by omega) (by omega) fun r4 o4 hr4 d => ?_
        have hLt : StrL (upd (upd H5 p o3) p o4) Lt es := by show upd _ _ _ _ = _; rw [upd_ne (Ne.symm (d.ne hL0))]; exact hLt
        refine r_ixL (d.at hll) (by rw [List.getElem?_map, List.getElem?_map, List.getElem?_eq_getElem hr4]; rfl) ?_
        walk_at "r"
        refine r_lenQL hLt ?_
        walk_at "r"
        rw [List.length_map]
        refine r_tk (mm := es.length) d (List.length_pos_iff.mpr he0) (by omega) (by omega) fun r5 o5 hr5 d => ?_
        have hLt : StrL (upd (upd (upd H5 p o3) p o4) p o5) Lt es := by show upd _ _ _ _ = _; rw [upd_ne (Ne.symm (d.ne hL0))]; exact hLt
        refine r_setL hLt (by rw [List.length_map]; exact hr5) ?_
        walk_at "r"
        have d := (d.mut (o := .lst ((es.map V.str).set r5 (.str lanes[r4].1))) hLG hL0).tell upd_same hL0
        refine k Lt (es.set r5 lanes[r4].1) _ _ (d.mono (by omega)) (by show upd _ _ _ _ = _; rw [upd_same, List.map_set]) (fun z => he0 ?_) (by rw [List.length_set]; exact hel') ?_
        · have := congrArg List.length z
          rw [List.length_set] at this
          exact List.length_eq_zero_iff.mp this
        · intro y hy
          rcases List.mem_or_eq_of_mem_set hy with hy | rfl
          · exact hes y hy
          · exact List.mem_map.mpr ⟨_, List.getElem_mem hr4, rfl⟩
      · refine r_no (eq_false_of_ne_true c) ?_
        walk_at "r"
        exact k Lt es _ _ ((d.tell hLt hL0).mono (by omega)) upd_same he0 hel' hes
end
end K48
/-! ## KD12 -/
set_option maxHeartbeats 4000000
namespace K48
open PySem L2
local macro_rules | `(tactic| walk_at "r1") => `(tactic| first
  | with_reducible refine r_seq ?_ | with_reducible refine r_asg ?_ | with_reducible refine r_ret ?_ | with_reducible refine r_drop ?_ | with_reducible refine r_if ?_ | with_reducible refine r_next ?_
  | with_reducible refine r_name ?_ | with_reducible refine r_c ?_ | ((with_reducible show tVar _ _ _ _); refine r_var rfl ?_) | with_reducible refine r_op ?_ | with_reducible refine r_un ?_
  | with_reducible refine r_i0 ?_ | with_reducible refine r_test ?_ | with_reducible refine r_tB ?_ | with_reducible refine r_bl ?_ | with_reducible refine r_and ?_ | with_reducible refine r_or ?_
  | with_reducible refine r_not ?_ | with_reducible refine r_ifE ?_ | with_reducible refine r_cons ?_ | with_reducible refine r_nil ?_ | with_reducible refine r_cb ?_ | with_reducible refine r_call ?_
  | with_reducible refine r_lstG ?_ | with_reducible refine r_tupG ?_ | with_reducible refine r_sl ?_ | with_reducible refine r_noP ?_ | with_reducible refine r_part ?_ | with_reducible refine r_exI ?_
  | with_reducible refine r_tr ?_ | with_reducible refine r_fa ?_ | with_reducible refine r_for ?_ | with_reducible refine r_iList ?_ | with_reducible refine r_iTup ?_ | with_reducible refine r_iStr ?_
  | with_reducible refine r_iR1 ?_ | with_reducible refine r_iR2 ?_ | with_reducible refine r_lc ?_ | with_reducible refine r_nt ?_ | with_reducible refine r_nf ?_ | with_reducible refine r_orV ?_ | with_reducible refine r_andV ?_ | with_reducible refine r_yesT ?_ | with_reducible refine r_gsub ?_ | with_reducible refine r_gcons ?_ | with_reducible refine r_gnil ?_ | with_reducible refine r_bm ?_ | with_reducible refine r_bm0 ?_
  | with_reducible refine r_fldG ?_ | with_reducible refine r_sfldG ?_ | with_reducible refine r_meth ?_ | with_reducible refine r_make ?_ | with_reducible refine r_dget ?_ | with_reducible refine r_din ?_ | with_reducible refine r_dnin ?_ | with_reducible refine r_dput ?_
  | with_reducible refine r_dgetN ?_ | with_reducible refine r_dinN ?_ | with_reducible refine r_dninN ?_ | with_reducible refine r_dputN ?_ | ((with_reducible show tAug _ _ _ _ _ _); refine r_aug rfl ?_) | with_reducible refine r_par ?_ | with_reducible refine r_neg ?_ | with_reducible refine r_iEnum ?_ | with_reducible refine r_iZip ?_ | with_reducible refine r_iZipA ?_)
local macro_rules | `(tactic| walk_at "r") => `(tactic| repeat walk_at "r1")

theorem lock_back {H H' : Hp} {d : Addr} {od : Obj} {u : HO} (h : H d = some u) (s : Same (upd H d (.frz od u)) H') : Same H (upd H' d u) := fun a o e => by
  by_cases c : a = d
  · subst c; rw [upd_same, ← h, e]
  · rw [upd_ne c]; exact s a o (by rw [upd_ne c]; exact e)
theorem lock_same {H : Hp} {d a : Addr} {od : Obj} {u o : HO} (h : H a = some o) (c : a ≠ d) : upd H d (.frz od u) a = some o := by rw [upd_ne c]; exact h
section
variable {σ : St} {H : Hp} {Q : VK} {te : TE} {R : It → Hp → Prop}
theorem r_lockE (k : ∃ d u, H d = some u ∧ Mut (some u) ∧ ∀ od, te σ (upd H d (.frz od u)) fun v H' => H' d = some (.frz od u) ∧ Q v (upd H' d u)) : tLockE te σ H Q := k
theorem r_iKeys (k : te σ H fun x H1 => ∃ d o, x = .ref d ∧ ((∃ kvs, H1 d = some (.frz o (.dK kvs)) ∧ R (Itk d o kvs) H1) ∨ ∃ kvs, H1 d = some (.frz o (.dT kvs)) ∧ R (Itkt d o kvs) H1)) : iKeys te σ H R := k
theorem r_lockS {t : TS} {D : Ends} (k : ∃ d u, H d = some u ∧ Mut (some u) ∧ ∀ od, t ⟨fun σ' H' => H' d = some (.frz od u) ∧ D.nx σ' (upd H' d u), fun v H' => H' d = some (.frz od u) ∧ D.rt v (upd H' d u), fun σ' H' => H' d = some (.frz od u) ∧ D.bk σ' (upd H' d u), fun σ' H' => H' d = some (.frz od u) ∧ D.ct σ' (upd H' d u)⟩ σ (upd H d (.frz od u))) : tLock t D σ H := k
end
theorem DGet.frz {H : Hp} {a : Addr} {kvs : List (Key × V)} {k : Key} {od : Obj} (e : H a = some (.frz od (.dK kvs))) : DGet H a (kV k) (valV kvs k) := .inl ⟨kvs, k, .inr ⟨od, e⟩, rfl, rfl⟩
theorem h_cat {H1 : Hp} {Q : VK} {a b : Addr} {xs ys : List V} (ha : H1 a = some (.lst xs)) (hb : H1 b = some (.lst ys)) (hl : xs.length + ys.length ≤ 100000) (k : ∀ p H2, Same H1 H2 → H2 p = some (.lst (xs ++ ys)) → H1 p = none → Q (.ref p) H2) : rCat (.ref a) (.ref b) H1 Q :=
  r_cat ha hb (small_sz hl) fun p hp => k p _ (same_upd hp) upd_same hp
def spDrawn : Sp := fun vs H Q _ => ∃ (p q e wl : Addr) (start : Str) (el : Lane Str) (ends : List Str) (G : Hp) (posts : List Str) (lanes : List (Lane Str)) (n : Nat), vs = [V.ref p, V.ref q, .str start, .ref e, .ref wl] ∧ Same G H ∧ G p = none ∧ Pl H p n ∧ n ≤ 500000000000 ∧
  PartsAt G q posts lanes ∧ NetD posts lanes ∧ StrL G e ends ∧ ends.length ≤ 3 ∧ (∀ z ∈ ends, IsNm z) ∧ StrL G wl [el.1] ∧ el ∈ lanes ∧
  (∀ G' H', Dg p (n + 100) G H G' H' → Q .non H') ∧
  ∀ (r : Addr) (R : List (Lane Str)) (z : Str) (G' H' : Hp), Dg p (n + 100) G H G' H' → StrL G' r (R.map (·.1)) → Way lanes start z R → z ∈ ends → R.length ≤ 100 → Q (.ref r) H'
section
variable {P : Program} {w : World} {K : PySem.W.Frag} {mg : Str → Option Value} {base : Heap}
abbrev st__law_drawn_run : Stmt := topS 97
abbrev N__law_drawn_run : List Str := ["_law_pool_here", "_law_parts", "_law_start", "_law_ends_here", "_law_wanted", "_law_told_here", "_law_post", "_law_run", "_law_lane", "_law_turn", "_law_one", "_law_out", "_law_step", "_law_ways_here", "_law_end", "_law_goals_there"]
theorem sc__law_drawn_run : FnScope N__law_drawn_run ["_law_pool_here", "_law_parts", "_law_start", "_law_ends_here", "_law_wanted"] (defScope st__law_drawn_run) := ⟨rfl, rfl, rfl, by decide +kernel, rfl, by decide +kernel, by decide +kernel⟩
theorem ok__law_drawn_run (T : Top K mg) (F : Dn K mg "_law_drawn_run" st__law_drawn_run) (c__law_take : Cal P w K mg base 1 "_law_take" spTake) (c__law_ends : Cal P w K mg base 1 "_law_ends" spEndsL) (c__law_ways : Cal P w K mg base 1 "_law_ways" spWays) : Cal P w K mg base 2 "_law_drawn_run" spDrawn := by
  refine F.cal sc__law_drawn_run (fun vs H Q E h => ?_) (fun _ _ _ _ _ _ us hl => match us, hl with | [_, _, _, _, _], _ => rfl) (fun f cdv A outer s H vs Q E hr h => ?_)
  · obtain ⟨p, q, e, wl, start, el, ends, G, posts, lanes, n, rfl, _⟩ := h
    rfl
  · obtain ⟨p, q, e, wl, start, el, ends, G, posts, lanes, n, rfl, sg, gp, hp, hn, hparts, hnet, he, he3, hen, hwl, hel, k1, k2⟩ := h
    have d := Dg.refl sg hp gp
    have h8 := hnet.l8
    refine ⟨_, (pss_cons (ps_set (i := 5) sc__law_drawn_run.nd rfl (Or.inr rfl) (C8.pe_c c__law_ends hr (by omega) rfl (pa_cons (pv 1) pa_nil)))
  (pss_cons (ps_set (i := 6) sc__law_drawn_run.nd rfl (Or.inr rfl) (pv 2))
  (pss_cons (ps_set (i := 7) sc__law_drawn_run.nd rfl (Or.inl rfl) (pe_lst pa_nil))
  (pss_cons (ps_for PassesOwn.never rfl (pi_list (pv 4)) (pg_name (i := 8) sc__law_drawn_run.nd rfl (Or.inl rfl)) (pss_cons (ps_for PassesOwn.never rfl (pi_range1 rfl T.b_range (pa_cons (C8.pe_c c__law_take hr (by omega) rfl (pa_cons (pv 0) (pa_cons pe_int pa_nil))) pa_nil)) (pg_name (i := 9) sc__law_drawn_run.nd rfl (Or.inl rfl)) (pss_cons (ps_lock (ps_setLc (i := 11) (own := [("_law_one", 10)]) (g := (gName 10)) rfl sc__law_drawn_run.nd rfl rfl (sw_true rfl rfl rfl (by decide +kernel)) (pi_keys (pv 5)) (blkOk_by (N := N__law_drawn_run) (sc := defScope st__law_drawn_run) (by decide +kernel)) (fun _ _ _ _ _ => (pg_name (i := 10) sc__law_drawn_run.nd rfl (Or.inl rfl))) (fun _ _ _ _ _ => (pts_one (pt_cmpR op_eq (pe_ix (ix_tup : IxR _ (rIxT K)) (pe_dget (hu1 hr) (pv 5) (pv 10) (fun _ _ => rfl)) pe_int (fun _ _ => rfl)) (pv 6) (nomark _)))) (fun _ _ _ _ _ => (pv 10))))
  (pss_one (ps_if (pt_cmpR (op_neD hr.units) (pv 11) (pe_lst pa_nil) (nomark _)) (pss_cons (ps_set (i := 12) sc__law_drawn_run.nd rfl (Or.inl rfl) (pe_ix ix_list (pv 11) (C8.pe_c c__law_take hr (by omega) rfl (pa_cons (pv 0) (pa_cons (pe_callB (call_len_seq : CallR _ _ (rLenQ K)) rfl T.b_len (by decide +kernel) (pa_cons (pv 11) pa_nil)) pa_nil))) (fun _ _ => rfl)))
  (pss_one (ps_if (pt_cmp (pc_din (hu1 hr) (pe_ix ix_tup (pe_dget (hu1 hr) (pv 5) (pv 8) (fun _ _ => rfl)) pe_int (fun _ _ => rfl)) (C8.pe_c c__law_ways hr (by omega) rfl (pa_cons (pv 1) (pa_cons (pe_ix ix_tup (pe_dget (hu1 hr) (pv 5) (pv 12) (fun _ _ => rfl)) pe_int (fun _ _ => rfl)) pa_nil)))) rfl) (pss_cons (ps_expr (pe_bm PySem.F.plainAttrs_list PySem.F.slot_list_append PySem.F.type_list_append mt_append (pv 7) (pa_cons (pv 12) pa_nil)))
  (pss_one (ps_set (i := 6) sc__law_drawn_run.nd rfl (Or.inr rfl) (pe_ix ix_tup (pe_dget (hu1 hr) (pv 5) (pv 12) (fun _ _ => rfl)) pe_int (fun _ _ => rfl))))) pss_nil))) pss_nil))))
  (pss_cons (ps_set (i := 13) sc__law_drawn_run.nd rfl (Or.inr rfl) (C8.pe_c c__law_ways hr (by omega) rfl (pa_cons (pv 1) (pa_cons (pv 6) pa_nil))))
  (pss_one (ps_if (pt_cmp (pc_din (hu1 hr) (pe_ix ix_tup (pe_dget (hu1 hr) (pv 5) (pv 8) (fun _ _ => rfl)) pe_int (fun _ _ => rfl)) (pv 13)) rfl) (pss_cons (ps_set (i := 7) sc__law_drawn_run.nd rfl (Or.inl rfl) (pe_op op_cat (pe_op op_cat (pv 7) (pe_dget (hu1 hr) (pv 13) (pe_ix ix_tup (pe_dget (hu1 hr) (pv 5) (pv 8) (fun _ _ => rfl)) pe_int (fun _ _ => rfl)) (fun _ _ => rfl))) (pe_lst (pa_cons (pv 8) pa_nil))))
  (pss_one (ps_set (i := 6) sc__law_drawn_run.nd rfl (Or.inr rfl) (pe_ix ix_tup (pe_dget (hu1 hr) (pv 5) (pv 8) (fun _ _ => rfl)) pe_int (fun _ _ => rfl))))) pss_nil)))))
  (pss_cons (ps_set (i := 13) sc__law_drawn_run.nd rfl (Or.inr rfl) (C8.pe_c c__law_ways hr (by omega) rfl (pa_cons (pv 1) (pa_cons (pv 6) pa_nil))))
  (pss_cons (ps_setLc (i := 15) (own := [("_law_end", 14)]) (g := (gName 14)) rfl sc__law_drawn_run.nd rfl rfl (sw_true rfl rfl rfl (by decide +kernel)) (pi_list (pv 3)) (blkOk_by (N := N__law_drawn_run) (sc := defScope st__law_drawn_run) (by decide +kernel)) (fun _ _ _ _ _ => (pg_name (i := 14) sc__law_drawn_run.nd rfl (Or.inl rfl))) (fun _ _ _ _ _ => (pts_one (pt_cmp (pc_din (hu1 hr) (pv 14) (pv 13)) rfl))) (fun _ _ _ _ _ => (pv 14)))
  (pss_cons (ps_if (pt_cmpR (op_eqD hr.units) (pv 15) (pe_lst pa_nil) (nomark _)) (pss_one (ps_ret pe_non)) pss_nil)
  (pss_one (ps_ret (pe_op op_cat (pv 7) (pe_dget (hu1 hr) (pv 13) (pe_ix ix_list (pv 15) (C8.pe_c c__law_take hr (by omega) rfl (pa_cons (pv 0) (pa_cons (pe_callB (call_len_seq : CallR _ _ (rLenQ K)) rfl T.b_len (by decide +kernel) (pa_cons (pv 15) pa_nil)) pa_nil))) (fun _ _ => rfl)) (fun _ _ => rfl)))))))))))), ?_⟩
    walk_at "r"
    refine ⟨q, G, posts, lanes, rfl, sg, hparts, hnet.ln.nd, h8, fun dd kvs G1 H1 g hd0 hdG hd hk => ?_⟩
    have d := d.grow g
    walk_at "r"
    refine h_lst rfl fun rl H2 s2 hrl hrl0 => ?_
    have hr0 := d.free hrl0
    have hrG := d.free1 hrl0
    have hdr : dd ≠ rl := fun z => by rw [← z, hd] at hrl0; cases hrl0
    have d := d.same s2
    have hd := s2 _ _ hd
    walk_at "r"
    refine ⟨wl, rfl, ⟨_, .inl (.inl (d.at (d.gr.gg _ _ hwl)))⟩, ?_⟩
    refine for_it (walk_list (xs := [el.1].map V.str)) (fun i σ H' => ∃ (G' : Hp) (rl : Addr) (R : List (Lane Str)) (post : Str) (y8 y9 y10 y11 y12 y13 y14 y15 : Option V), Dg p (n + 20 * i) G H G' H' ∧ G' dd = none ∧ H' dd = some (.dK kvs) ∧ Seq2 (EndV G') kvs lanes ∧
      StrL H' rl (R.map (·.1)) ∧ G' rl = none ∧ H rl = none ∧ rl ≠ dd ∧ Way lanes start post R ∧ R.length ≤ 20 * i ∧ σ = [some (.ref p), some (.ref q), some (.str start), some (.ref e), some (.ref wl), some (.ref dd), some (.str post), some (.ref rl), y8, y9, y10, y11, y12, y13, y14, y15])
      ⟨G1, rl, [], start, _, _, _, _, _, _, _, _, d, hdG, hd, hk, hrl, hrG, hr0, Ne.symm hdr, Way.nil, Nat.le_refl _, rfl⟩ (fun i σ H' _ ⟨_, _, _, _, _, _, _, _, _, _, _, _, d, _⟩ => .inl (.inl (d.at (d.gr.gg _ _ hwl)))) ?_ ?_
    · clear hr0 hrG hdr hrl hd hk hdG
      rintro i v σ H3' H3 hi ⟨G3, rl, R, post, y8, y9, y10, y11, y12, y13, y14, y15, d, hdG, hd, hk, hrl, hrG, hr0, hrd, hR, hRl, rfl⟩ ⟨rfl, hx⟩
      have hi1 : i = 0 := by simpa using hi
      subst hi1
      cases Option.some.inj hx
      obtain ⟨tw, htw, htw2⟩ := endv_get hk hnet.ln.nd hel
      walk_at "r"
      refine r_tk (mm := 4) d (by decide) (by decide) (by omega) fun r2 o2 hr2 d => ?_
      have hd : upd H3 p o2 dd = some (.dK kvs) := by rw [upd_ne (Ne.symm (d.ne hd0))]; exact hd
      have hrl : StrL (upd H3 p o2) rl (R.map (·.1)) := by show upd _ _ _ _ = _; rw [upd_ne (Ne.symm (d.ne hr0))]; exact hrl
      revert d hd hrl
      generalize upd H3 p o2 = H4
      intro d hd hrl
      refine ⟨_, rfl, by omega, by omega, ?_⟩
      refine for_it walk_rng0 (fun j σ H' => ∃ (G' : Hp) (R : List (Lane Str)) (post : Str) (y9 y10 y11 y12 y13 y14 y15 : Option V), Dg p (n + 1 + j) G H G' H' ∧ G' dd = none ∧ H' dd = some (.dK kvs) ∧ Seq2 (EndV G') kvs lanes ∧
        StrL H' rl (R.map (·.1)) ∧ G' rl = none ∧ Way lanes start post R ∧ R.length ≤ j ∧ σ = [some (.ref p), some (.ref q), some (.str start), some (.ref e), some (.ref wl), some (.ref dd), some (.str post), some (.ref rl), some (.str el.1), y9, y10, y11, y12, y13, y14, y15])
        ⟨G3, R, post, _, _, _, _, _, _, _, d, hdG, hd, hk, hrl, hrG, hR, hRl, rfl⟩ (fun _ _ _ _ _ => trivial) ?_ ?_
      · clear hd hk hdG hrl hrG hR hRl d htw2 htw hx
        rintro j x σ H5' H5 hj ⟨G5, R, post, y9, y10, y11, y12, y13, y14, y15, d, hdG, hd, hk, hrl, hrG, hR, hRl, rfl⟩ ⟨rfl, rfl⟩
        obtain ⟨tw, htw, htw2⟩ := endv_get hk hnet.ln.nd hel
        have hj4 : j < 4 := by have : j < r2 := hj; omega
        walk_at "r"
        refine r_lockS ⟨dd, _, hd, trivial, fun od => ?_⟩
        walk_at "r"
        refine r_iKeys ?_
        walk_at "r"
        refine ⟨dd, od, rfl, .inl ⟨kvs, upd_same, fun Dl hD => ?_⟩⟩
        have hDd : dd ≠ Dl := fun z => by rw [← z, upd_same] at hD; cases hD
        have hD5 : H5 Dl = none := by rw [upd_ne (Ne.symm hDd)] at hD; exact hD
        have hDl0 := d.free hD5
        refine lc_it (walk_keys (d := dd) (o := od) (kvs := kvs)) (fun i H' => Same (upd H5 dd (.frz od (.dK kvs))) H' ∧ ∃ zs : List Str, StrL H' Dl zs ∧ zs.length ≤ i ∧ ∀ z ∈ zs, ∃ ez ∈ lanes, ez.1 = z ∧ ez.2.1 = post) ⟨same_upd hD, [], upd_same, Nat.le_refl _, by simp⟩ (fun _ _ _ h => h.1 _ _ upd_same) ?_ ?_
        · rintro i v H6' H6 hi ⟨s6, zs, hDl, hzl, hzs⟩ ⟨rfl, kk, vv, hkv, rfl⟩
          obtain ⟨ez, hez, hez1, tz, htz, htz2⟩ := hk.at hkv
          have hkk : kk = nk ez.1 := hez1
          subst hkk
          have hezm := List.mem_of_getElem? hez
          obtain ⟨tz', htz', htz2'⟩ := endv_get hk hnet.ln.nd hezm
          have hkl : kvs.length ≤ 8 := by rw [hk.1]; exact h8
          walk_at "r"
          refine ⟨rfl, ?_⟩
          walk_at "r"
          refine ⟨dd, _, rfl, by rw [← htz']; exact DGet.frz (k := nk ez.1) (s6 _ _ upd_same), ?_⟩
          walk_at "r"
          refine r_ixT (j := 0) (s6 _ _ (lock_same (d.at htz2') (fun z => by rw [z, hdG] at htz2'; cases htz2'))) rfl ?_
          walk_at "r"
          refine r_eq rfl ?_
          walk_at "r"
          by_cases c : ez.2.1 = post
          · refine r_yes (decide_eq_true (by rw [c])) ?_
            walk_at "r"
            refine ⟨_, hDl, by rw [List.length_map]; exact small_lt (by omega), s6.upd_mut hD, zs ++ [ez.1], by show upd _ _ _ _ = _; rw [upd_same, List.map_append]; rfl, by rw [List.length_append]; show _ + 1 ≤ _; omega, ?_⟩
            intro y hy
            rcases List.mem_append.mp hy with hy | hy
            · exact hzs y hy
            · rw [List.mem_singleton.mp hy]; exact ⟨ez, hezm, rfl, c⟩
          · refine r_no (decide_eq_false fun z => c (V.str.inj z)) ?_
            exact ⟨s6, zs, hDl, by omega, hzs⟩
        · rintro H6 ⟨s6, zs, hDl, hzl, hzs⟩
          have hkl : kvs.length ≤ 8 := by rw [hk.1]; exact h8
          walk_at "r"
          refine ⟨s6 _ _ upd_same, ?_⟩
          have s7 := lock_back hd s6
          have hDl : StrL (upd H6 dd (.dK kvs)) Dl zs := by show upd _ _ _ _ = _; rw [upd_ne (Ne.symm hDd)]; exact hDl
          revert s7 hDl
          generalize upd H6 dd (.dK kvs) = H7
          intro s7 hDl
          have d := d.same s7
          have hd := s7 _ _ hd
          have hrl : StrL H7 rl (R.map (·.1)) := s7 _ _ hrl
          walk_at "r"
          refine h_lst rfl fun n0 H8 s8 hn0 _ => ?_
          have d := d.same s8
          have hd := s8 _ _ hd
          have hrl : StrL H8 rl (R.map (·.1)) := s8 _ _ hrl
          have hDl : StrL H8 Dl zs := s8 _ _ hDl
          refine r_neNilS (zs := zs) hDl (fun z hz => by obtain ⟨ez, h1, h2, _⟩ := hzs z hz; exact hnet.ln.nm z (List.mem_map.mpr ⟨ez, h1, h2⟩)) hn0 ?_
          walk_at "r"
          by_cases cz : zs = []
          · refine r_no (by rw [cz]; rfl) ?_
            walk_at "r"
            exact ⟨G5, R, post, _, _, _, _, _, _, _, d.mono (by omega), hdG, hd, hk, hrl, hrG, hR, by omega, rfl⟩
          · refine r_yes (by cases zs with | nil => exact absurd rfl cz | cons _ _ => rfl) ?_
            have hz0 : 0 < zs.length := List.length_pos_iff.mpr cz
            walk_at "r"
            refine r_lenQL hDl ?_
            walk_at "r"
            rw [List.length_map]
            refine r_tk (mm := zs.length) d hz0 (by omega) (by omega) fun r3 o3 hr3 d => ?_
            have hrl : StrL (upd H8 p o3) rl (R.map (·.1)) := by show upd _ _ _ _ = _; rw [upd_ne (Ne.symm (d.ne hr0))]; exact hrl
            have hd : upd H8 p o3 dd = some (.dK kvs) := by rw [upd_ne (Ne.symm (d.ne hd0))]; exact hd
            obtain ⟨es, hes, hes1, hes2⟩ := hzs _ (List.getElem_mem hr3)
            refine r_ixL (xs := zs.map V.str) (by rw [upd_ne (Ne.symm (d.ne hDl0))]; exact hDl) (by rw [List.getElem?_map, List.getElem?_eq_getElem hr3]; rfl) ?_
            rw [← hes1]
            clear hDl hn0
            revert d hrl hd
            generalize upd H8 p o3 = H9
            intro d hrl hd
            obtain ⟨ts, hts, hts2⟩ := endv_get hk hnet.ln.nd hes
            walk_at "r"
            refine ⟨dd, _, rfl, by rw [← htw]; exact DGet.k (k := nk el.1) hd, ?_⟩
            walk_at "r"
            refine r_ixT (j := 0) (d.at htw2) rfl ?_
            walk_at "r"
            refine ⟨dd, _, rfl, by rw [← hts]; exact DGet.k (k := nk es.1) hd, ?_⟩
            walk_at "r"
            refine r_ixT (j := 1) (d.at hts2) rfl ?_
            walk_at "r"
            refine ⟨q, es.2.2, G5, posts, lanes, rfl, d.gr.gh, hparts.mono d.gr.gg, h8, fun d2 kvs2 GA HA ea hd2 hk2 => ?_⟩
            have d := d.grow ea
            have hdG := ea.new dd hdG (by rw [hd]; intro z; cases z)
            have hrG := ea.new rl hrG (by rw [show H9 rl = _ from hrl]; intro z; cases z)
            have hd := ea.same _ _ hd
            have hrl : StrL HA rl (R.map (·.1)) := ea.same _ _ hrl
            have hk := hk.mono fun _ _ => EndV.mono ea.gg
            refine ⟨d2, _, rfl, DGet.k (k := nk el.2.1) (d.at hd2), ?_⟩
            walk_at "r"
            by_cases c1 : (valV kvs2 (nk el.2.1)).isSome = true
            · refine r_yes c1 ?_
              walk_at "r"
              refine r_tyL hrl ?_
              walk_at "r"
              refine r_app hrl (by rw [List.length_map, List.length_map]; exact small_lt (by omega)) ?_
              have d := d.mut (o := .lst ((R.map (·.1)).map V.str ++ [.str es.1])) hrG hr0
              walk_at "r"
              refine ⟨dd, _, rfl, by rw [← hts]; exact DGet.k (k := nk es.1) (by rw [upd_ne (Ne.symm hrd)]; exact hd), ?_⟩
              walk_at "r"
              refine r_ixT (j := 1) (d.at (ea.gg _ _ hts2)) rfl ?_
              walk_at "r"
              refine ⟨GA, R ++ [es], es.2.2, _, _, _, _, _, _, _, d.mono (by omega), hdG, by rw [upd_ne (Ne.symm hrd)]; exact hd, hk, by show upd _ _ _ _ = _; rw [upd_same, List.map_append, List.map_append]; rfl, hrG, Way.snoc (hes2 ▸ hR) hes, by rw [List.length_append]; show _ + 1 ≤ _; omega, rfl⟩
            · refine r_no (eq_false_of_ne_true c1) ?_
              walk_at "r"
              exact ⟨GA, R, post, _, _, _, _, _, _, _, d.mono (by omega), hdG, hd, hk, hrl, hrG, hR, by omega, rfl⟩
      · clear hd hk hdG hrl hrG hR hRl d htw2 htw hx
        rintro σ H5 ⟨G5, R, post, y9, y10, y11, y12, y13, y14, y15, d, hdG, hd, hk, hrl, hrG, hR, hRl, rfl⟩
        obtain ⟨tw, htw, htw2⟩ := endv_get hk hnet.ln.nd hel
        have hRl : R.length ≤ 4 := Nat.le_trans hRl (show (r2 : Int).toNat ≤ 4 by omega)
        have d := d.mono (show n + 1 + (r2 : Int).toNat ≤ n + 10 by omega)
        walk_at "r"
        refine ⟨q, post, G5, posts, lanes, rfl, d.gr.gh, hparts.mono d.gr.gg, h8, fun d2 kvs2 GA HA ea hd2 hk2 => ?_⟩
        have d := d.grow ea
        have hdG := ea.new dd hdG (by rw [hd]; intro z; cases z)
        have hrG := ea.new rl hrG (by rw [show H5 rl = _ from hrl]; intro z; cases z)
        have hd := ea.same _ _ hd
        have hrl : StrL HA rl (R.map (·.1)) := ea.same _ _ hrl
        have hk := hk.mono fun _ _ => EndV.mono ea.gg
        have htw2 := ea.gg _ _ htw2
        walk_at "r"
        refine ⟨dd, _, rfl, by rw [← htw]; exact DGet.k (k := nk el.1) hd, ?_⟩
        walk_at "r"
        refine r_ixT (j := 0) (d.at htw2) rfl ?_
        walk_at "r"
        refine ⟨d2, _, rfl, DGet.k (k := nk el.2.1) (d.at hd2), ?_⟩
        walk_at "r"
        cases hw : valV kvs2 (nk el.2.1) with
        | none =>
          refine r_no rfl ?_
          walk_at "r"
          exact ⟨GA, rl, R, post, _, _, _, _, _, _, _, _, d.mono (by omega), hdG, hd, hk, hrl, hrG, hr0, hrd, hR, by omega, rfl⟩
        | some vw =>
          obtain ⟨lw, Rw, rfl, hlw, hRw, hRwl⟩ := hk2.ways _ _ hw
          refine r_yes rfl ?_
          walk_at "r"
          refine ⟨dd, _, rfl, by rw [← htw]; exact DGet.k (k := nk el.1) hd, ?_⟩
          walk_at "r"
          refine r_ixT (j := 0) (d.at htw2) rfl ?_
          refine ⟨d2, _, rfl, by rw [← hw]; exact DGet.k (k := nk el.2.1) (d.at hd2), ?_⟩
          walk_at "r"
          refine h_cat hrl (d.at hlw) (by rw [List.length_map, List.length_map, List.length_map, List.length_map]; omega) fun c1 HB sb hc1 _ => ?_
          have d := d.same sb
          walk_at "r"
          refine h_lst rfl fun c2 HC sc hc2 _ => ?_
          have d := d.same sc
          refine h_cat (sc _ _ hc1) hc2 (by rw [List.length_append, List.length_map, List.length_map, List.length_map, List.length_map]; show _ + 1 ≤ _; omega) fun c3 HD sd hc3 hc30 => ?_
          have hc3h := d.free hc30
          have hc3G := d.free1 hc30
          have d := d.same sd
          have hd3 := sd _ _ (sc _ _ (sb _ _ hd))
          walk_at "r"
          refine ⟨dd, _, rfl, by rw [← htw]; exact DGet.k (k := nk el.1) hd3, ?_⟩
          walk_at "r"
          refine r_ixT (j := 1) (d.at htw2) rfl ?_
          walk_at "r"
          refine ⟨GA, c3, R ++ Rw ++ [el], el.2.2, _, _, _, _, _, _, _, _, d.mono (by omega), hdG, hd3, hk, ?_, hc3G, hc3h, (fun z => by rw [z, hd3] at hc3; cases hc3), (hR.app hRw).snoc hel, ?_, rfl⟩
          · show HD c3 = _
            rw [List.map_append, List.map_append, List.map_append, List.map_append]
            exact hc3
          · rw [List.length_append, List.length_append]
            show _ + 1 ≤ _
            omega
    · clear hr0 hrG hdr hrl hd hk hdG
      rintro σ H3 ⟨G3, rl, R, post, y8, y9, y10, y11, y12, y13, y14, y15, d, hdG, hd, hk, hrl, hrG, hr0, hrd, hR, hRl, rfl⟩
      have hRl : R.length ≤ 20 := hRl
      have d : Dg p (n + 20) G H G3 H3 := d
      walk_at "r"
      refine ⟨q, post, G3, posts, lanes, rfl, d.gr.gh, hparts.mono d.gr.gg, h8, fun d2 kvs2 GA HA ea hd2 hk2 => ?_⟩
      have d := d.grow ea
      have hrl : StrL HA rl (R.map (·.1)) := ea.same _ _ hrl
      walk_at "r"
      refine ⟨e, rfl, ⟨_, .inl (.inl (d.at (d.gr.gg _ _ he)))⟩, fun Dl hD => ?_⟩
      have hDl0 := d.free hD
      refine lc_it (walk_list (xs := ends.map V.str)) (fun j H' => Same HA H' ∧ ∃ zs : List Str, StrL H' Dl zs ∧ zs.length ≤ j ∧ ∀ z ∈ zs, z ∈ ends ∧ (valV kvs2 (nk z)).isSome = true) ⟨same_upd hD, [], upd_same, Nat.le_refl _, by simp⟩ (fun _ _ _ h => .inl (.inl (h.1 _ _ (d.at (d.gr.gg _ _ he))))) ?_ ?_
      · rintro j v H6' H6 hj ⟨s6, zs, hDl, hzl, hzs⟩ ⟨rfl, hx⟩
        rw [List.length_map] at hj
        rw [List.getElem?_map] at hx
        obtain ⟨z, hz, rfl⟩ := Option.map_eq_some_iff.mp hx
        walk_at "r"
        refine ⟨rfl, ?_⟩
        walk_at "r"
        refine ⟨d2, _, rfl, DGet.k (k := nk z) (s6 _ _ (d.at hd2)), ?_⟩
        walk_at "r"
        by_cases c : (valV kvs2 (nk z)).isSome = true
        · refine r_yes c ?_
          walk_at "r"
          refine ⟨_, hDl, by rw [List.length_map]; exact small_lt (by omega), s6.upd_mut hD, zs ++ [z], by show upd _ _ _ _ = _; rw [upd_same, List.map_append]; rfl, by rw [List.length_append]; show _ + 1 ≤ _; omega, ?_⟩
          intro y hy
          rcases List.mem_append.mp hy with hy | hy
          · exact hzs y hy
          · rw [List.mem_singleton.mp hy]; exact ⟨List.mem_of_getElem? hz, c⟩
        · refine r_no (eq_false_of_ne_true c) ?_
          exact ⟨s6, zs, hDl, by omega, hzs⟩
      · rintro H6 ⟨s6, zs, hDl, hzl, hzs⟩
        rw [List.length_map] at hzl
        have d := d.same s6
        have hrl : StrL H6 rl (R.map (·.1)) := s6 _ _ hrl
        walk_at "r"
        refine h_lst rfl fun n0 H7 s7 hn0 _ => ?_
        have d := d.same s7
        have hrl : StrL H7 rl (R.map (·.1)) := s7 _ _ hrl
        have hDl : StrL H7 Dl zs := s7 _ _ hDl
        refine r_eqNilS (zs := zs) hDl (fun z hz => hen z (hzs z hz).1) hn0 ?_
        walk_at "r"
        by_cases cz : zs = []
        · refine r_yes (by rw [cz]; rfl) ?_
          walk_at "r"
          exact k1 _ _ (d.mono (by omega))
        · refine r_no (by cases zs with | nil => exact absurd rfl cz | cons _ _ => rfl) ?_
          have hz0 : 0 < zs.length := List.length_pos_iff.mpr cz
          walk_at "r"
          refine r_lenQL hDl ?_
          walk_at "r"
          rw [List.length_map]
          refine r_tk (mm := zs.length) d hz0 (by omega) (by omega) fun r3 o3 hr3 d => ?_
          have hrl : StrL (upd H7 p o3) rl (R.map (·.1)) := by show upd _ _ _ _ = _; rw [upd_ne (Ne.symm (d.ne hr0))]; exact hrl
          refine r_ixL (xs := zs.map V.str) (by rw [upd_ne (Ne.symm (d.ne hDl0))]; exact hDl) (by rw [List.getElem?_map, List.getElem?_eq_getElem hr3]; rfl) ?_
          obtain ⟨hze, hzs2⟩ := hzs _ (List.getElem_mem hr3)
          cases hw : valV kvs2 (nk zs[r3]) with
          | none => rw [hw] at hzs2; cases hzs2
          | some vw =>
            obtain ⟨lw, Rw, rfl, hlw, hRw, hRwl⟩ := hk2.ways _ _ hw
            refine ⟨d2, _, rfl, by rw [← hw]; exact DGet.k (k := nk zs[r3]) (d.at hd2), ?_⟩
            have d := d.tell hrl hr0
            refine e_cat d.gr.gh upd_same ((same_upd (by
              cases e : GA rl with
              | none => rfl
              | some u =>
                have h1 := ea.new rl hrG (by rw [show H3 rl = _ from by assumption]; intro z; cases z)
                rw [h1] at e; cases e)) _ _ hlw) (by rw [List.length_map, List.length_map, List.length_map, List.length_map]; omega) fun c1 GB HB eb hc1 _ => ?_
            refine k2 c1 (R ++ Rw) zs[r3] GB HB ((d.grow eb).mono (by omega)) ?_ (hR.app hRw) hze (by rw [List.length_append]; omega)
            show GB c1 = _
            rw [List.map_append, List.map_append]
            exact hc1
end
end K48
/-! ## KD13 -/
set_option maxHeartbeats 4000000
namespace K48
open PySem L2
local macro_rules | `(tactic| walk_at "r1") => `(tactic| first
  | with_reducible refine r_seq ?_ | with_reducible refine r_asg ?_ | with_reducible refine r_ret ?_ | with_reducible refine r_drop ?_ | with_reducible refine r_if ?_ | with_reducible refine r_next ?_
  | with_reducible refine r_name ?_ | with_reducible refine r_c ?_ | ((with_reducible show tVar _ _ _ _); refine r_var rfl ?_) | with_reducible refine r_op ?_ | with_reducible refine r_un ?_
  | with_reducible refine r_i0 ?_ | with_reducible refine r_test ?_ | with_reducible refine r_tB ?_ | with_reducible refine r_bl ?_ | with_reducible refine r_and ?_ | with_reducible refine r_or ?_
  | with_reducible refine r_not ?_ | with_reducible refine r_ifE ?_ | with_reducible refine r_cons ?_ | with_reducible refine r_nil ?_ | with_reducible refine r_cb ?_ | with_reducible refine r_call ?_
  | with_reducible refine r_lstG ?_ | with_reducible refine r_tupG ?_ | with_reducible refine r_sl ?_ | with_reducible refine r_noP ?_ | with_reducible refine r_part ?_ | with_reducible refine r_exI ?_
  | with_reducible refine r_tr ?_ | with_reducible refine r_fa ?_ | with_reducible refine r_for ?_ | with_reducible refine r_iList ?_ | with_reducible refine r_iTup ?_ | with_reducible refine r_iStr ?_
  | with_reducible refine r_iR1 ?_ | with_reducible refine r_iR2 ?_ | with_reducible refine r_lc ?_ | with_reducible refine r_nt ?_ | with_reducible refine r_nf ?_ | with_reducible refine r_orV ?_ | with_reducible refine r_andV ?_ | with_reducible refine r_yesT ?_ | with_reducible refine r_gsub ?_ | with_reducible refine r_gcons ?_ | with_reducible refine r_gnil ?_ | with_reducible refine r_bm ?_ | with_reducible refine r_bm0 ?_
  | with_reducible refine r_fldG ?_ | with_reducible refine r_sfldG ?_ | with_reducible refine r_meth ?_ | with_reducible refine r_make ?_ | with_reducible refine r_dget ?_ | with_reducible refine r_din ?_ | with_reducible refine r_dnin ?_ | with_reducible refine r_dput ?_
  | with_reducible refine r_dgetN ?_ | with_reducible refine r_dinN ?_ | with_reducible refine r_dninN ?_ | with_reducible refine r_dputN ?_ | ((with_reducible show tAug _ _ _ _ _ _); refine r_aug rfl ?_) | with_reducible refine r_par ?_ | with_reducible refine r_neg ?_ | with_reducible refine r_iEnum ?_ | with_reducible refine r_iZip ?_ | with_reducible refine r_iZipA ?_)
local macro_rules | `(tactic| walk_at "r") => `(tactic| repeat walk_at "r1")

/-- a drawn run, or none yet -/
def RunO (G : Hp) (lanes : List (Lane Str)) (start : Str) (ends : List Str) (v : V) : Prop := v = .non ∨ ∃ a R z, v = .ref a ∧ StrL G a (R.map (·.1)) ∧ Way lanes start z R ∧ z ∈ ends ∧ R.length ≤ 100
def RunW (G : Hp) (lanes : List (Lane Str)) (start : Str) (ends : List Str) (v : V) (x : Lane Str) : Prop := ∃ a R z, v = .ref a ∧ StrL G a (R.map (·.1)) ∧ Way lanes start z R ∧ z ∈ ends ∧ R.length ≤ 100 ∧ x.1 ∈ R.map (·.1)
theorem RunO.mono {G G' : Hp} {lanes : List (Lane Str)} {start : Str} {ends : List Str} {v : V} (s : Same G G') (h : RunO G lanes start ends v) : RunO G' lanes start ends v := by
  rcases h with h | ⟨a, R, z, h1, h2, h3⟩
  · exact .inl h
  · exact .inr ⟨a, R, z, h1, s _ _ h2, h3⟩
theorem RunW.mono {G G' : Hp} {lanes : List (Lane Str)} {start : Str} {ends : List Str} {v : V} {x : Lane Str} (s : Same G G') (h : RunW G lanes start ends v x) : RunW G' lanes start ends v x := by
  obtain ⟨a, R, z, h1, h2, h3⟩ := h
  exact ⟨a, R, z, h1, s _ _ h2, h3⟩
def runB (H : Hp) (nm : Str) (v : V) : Bool := match v with
  | .ref a => (match H a with
    | some (.lst xs) => !(xs.any fun x => decide (x = .str nm))
    | _ => true)
  | _ => true
theorem runB_ref {H : Hp} {nm : Str} {a : Addr} {ks : List Str} (h : StrL H a ks) : runB H nm (.ref a) = !decide (nm ∈ ks) := by
  unfold runB
  simp only [h]
  congr 1
  rw [List.any_map]
  by_cases c : nm ∈ ks
  · rw [decide_eq_true c, List.any_eq_true]
    exact ⟨nm, c, decide_eq_true rfl⟩
  · rw [decide_eq_false c, List.any_eq_false]
    intro x hx hd
    exact c (V.str.inj (of_decide_eq_true hd) ▸ hx)
def spLot : Sp := fun vs H Q _ => ∃ (p q e wl : Addr) (start : Str) (ws : List (Lane Str)) (ends : List Str) (G : Hp) (posts : List Str) (lanes : List (Lane Str)) (n : Nat), vs = [V.ref p, V.ref q, .str start, .ref e, .ref wl] ∧ Same G H ∧ G p = none ∧ Pl H p n ∧ n ≤ 400000000000 ∧
  PartsAt G q posts lanes ∧ NetD posts lanes ∧ StrL G e ends ∧ ends.length ≤ 3 ∧ (∀ z ∈ ends, IsNm z) ∧ StrL G wl (ws.map (·.1)) ∧ (∀ w ∈ ws, w ∈ lanes) ∧ ws.length ≤ 10 ∧
  (∀ G' H', Dg p (n + 10000) G H G' H' → Q .non H') ∧
  ∀ (r : Addr) (rs : List V) (G' H' : Hp), Dg p (n + 10000) G H G' H' → G' r = some (.lst rs) → Seq2 (RunW G' lanes start ends) rs ws → Q (.ref r) H'
section
variable {P : Program} {w : World} {K : PySem.W.Frag} {mg : Str → Option Value} {base : Heap}
abbrev st__law_lot : Stmt := topS 100
abbrev N__law_lot : List Str := ["_law_pool_here", "_law_parts", "_law_start", "_law_ends_here", "_law_wanted", "_law_runs", "_law_lane", "_law_run", "_law_turn"]
theorem sc__law_lot : FnScope N__law_lot ["_law_pool_here", "_law_parts", "_law_start", "_law_ends_here", "_law_wanted"] (defScope st__law_lot) := ⟨rfl, rfl, rfl, by decide +kernel, rfl, by decide +kernel, by decide +kernel⟩
theorem ok__law_lot (T : Top K mg) (F : Dn K mg "_law_lot" st__law_lot) (c__law_drawn_run : Cal P w K mg base 2 "_law_drawn_run" spDrawn) : Cal P w K mg base 3 "_law_lot" spLot := by
  refine F.cal sc__law_lot (fun vs H Q E h => ?_) (fun _ _ _ _ _ _ us hl => match us, hl with | [_, _, _, _, _], _ => rfl) (fun f cdv A outer s H vs Q E hr h => ?_)
  · obtain ⟨p, q, e, wl, start, ws, ends, G, posts, lanes, n, rfl, _⟩ := h
    rfl
  · obtain ⟨p, q, e, wl, start, ws, ends, G, posts, lanes, n, rfl, sg, gp, hp, hn, hparts, hnet, he, he3, hen, hwl, hws, hw10, k1, k2⟩ := h
    have d := Dg.refl sg hp gp
    refine ⟨_, (pss_cons (ps_set (i := 5) sc__law_lot.nd rfl (Or.inl rfl) (pe_lst pa_nil))
  (pss_cons (ps_for PassesOwn.never rfl (pi_list (pv 4)) (pg_name (i := 6) sc__law_lot.nd rfl (Or.inl rfl)) (pss_cons (ps_set (i := 7) sc__law_lot.nd rfl (Or.inl rfl) pe_non)
  (pss_cons (ps_for PassesOwn.never rfl (pi_range1 rfl T.b_range (pa_cons pe_int pa_nil)) (pg_name (i := 8) sc__law_lot.nd rfl (Or.inl rfl)) (pss_one (ps_if (PW.pt (pw_or (pt_cmpR op_isN (pv 7) pe_non (nomark _)) (pw_or1 (pt_cmpR op_notIn_seq (pv 6) (pv 7) (by rfl))))) (pss_one (ps_set (i := 7) sc__law_lot.nd rfl (Or.inl rfl) (C8.pe_c c__law_drawn_run hr (by omega) rfl (pa_cons (pv 0) (pa_cons (pv 1) (pa_cons (pv 2) (pa_cons (pv 3) (pa_cons (pe_lst (pa_cons (pv 6) pa_nil)) pa_nil)))))))) pss_nil)))
  (pss_one (ps_expr (pe_bm PySem.F.plainAttrs_list PySem.F.slot_list_append PySem.F.type_list_append mt_append (pv 5) (pa_cons (pv 7) pa_nil)))))))
  (pss_cons (ps_for PassesOwn.never rfl (pi_zip rfl T.b_zip (pa_cons (pv 4) (pa_cons (pv 5) pa_nil))) (pg_tup rfl (pgs_cons (pg_name (i := 6) sc__law_lot.nd rfl (Or.inl rfl)) (pgs_cons (pg_name (i := 7) sc__law_lot.nd rfl (Or.inl rfl)) pgs_nil))) (pss_one (ps_if (PW.pt (pw_or (pt_cmpR op_isN (pv 7) pe_non (nomark _)) (pw_or1 (pt_cmpR op_notIn_seq (pv 6) (pv 7) (by rfl))))) (pss_one (ps_ret pe_non)) pss_nil)))
  (pss_one (ps_ret (pv 5)))))), ?_⟩
    walk_at "r"
    refine h_lst rfl fun Lr H1 s1 hLr hLr0 => ?_
    have hL0 := d.free hLr0
    have hLG := d.free1 hLr0
    have d := d.same s1
    walk_at "r"
    refine ⟨wl, rfl, ⟨_, .inl (.inl (d.at hwl))⟩, ?_⟩
    refine for_it (walk_list (xs := (ws.map (·.1)).map V.str)) (fun i σ H' => ∃ (G' : Hp) (rs : List V) (y6 y7 y8 : Option V), Dg p (n + 900 * i) G H G' H' ∧ G' Lr = none ∧ H' Lr = some (.lst rs) ∧ rs.length = i ∧ (∀ v ∈ rs, RunO G' lanes start ends v) ∧
      σ = [some (.ref p), some (.ref q), some (.str start), some (.ref e), some (.ref wl), some (.ref Lr), y6, y7, y8]) ⟨G, [], _, _, _, d, hLG, hLr, rfl, by simp, rfl⟩ (fun i σ H' _ ⟨_, _, _, _, _, d, _⟩ => .inl (.inl (d.at (d.gr.gg _ _ hwl)))) ?_ ?_
    · clear hLr hLG
      rintro i v σ H2' H2 hi ⟨G2, rs, y6, y7, y8, d, hLG, hLr, hrl, hrs, rfl⟩ ⟨rfl, hx⟩
      rw [List.length_map, List.length_map] at hi
      rw [List.getElem?_map, List.getElem?_map] at hx
      obtain ⟨nm, h1, rfl⟩ := Option.map_eq_some_iff.mp hx
      obtain ⟨el, hel, rfl⟩ := Option.map_eq_some_iff.mp h1
      have helm := hws _ (List.mem_of_getElem? hel)
      walk_at "r"
      refine ⟨_, rfl, by omega, by omega, ?_⟩
      refine for_it walk_rng0 (fun j σ H' => ∃ (G' : Hp) (v : V) (y8 : Option V), Dg p (n + 900 * i + 100 * j) G H G' H' ∧ Same G2 G' ∧ G' Lr = none ∧ H' Lr = some (.lst rs) ∧ RunO G' lanes start ends v ∧
        σ = [some (.ref p), some (.ref q), some (.str start), some (.ref e), some (.ref wl), some (.ref Lr), some (.str el.1), some v, y8]) ⟨G2, .non, _, d, Same.refl _, hLG, hLr, .inl rfl, rfl⟩ (fun _ _ _ _ _ => trivial) ?_ ?_
      · clear d hLG hLr
        rintro j x σ H3' H3 hj ⟨G3, v, y8, d, s23, hLG, hLr, hv, rfl⟩ ⟨rfl, rfl⟩
        have hj8 : j < 8 := hj
        refine r_name ?_
        with_reducible show tIfS _ _ _ _ _ _
        refine r_ifB (runB H3 el.1 v) (H1 := H3) (fun R' hR' => ?_) ?_
        · rcases hv with rfl | ⟨a, R, z, rfl, ha, hw, hz, hRl⟩
          · walk_at "r"
            refine ⟨rfl, ?_⟩
            walk_at "r"
            refine r_yes rfl ?_
            exact hR'
          · rw [runB_ref (d.at ha)] at hR'
            walk_at "r"
            refine ⟨rfl, ?_⟩
            walk_at "r"
            refine r_no rfl ?_
            walk_at "r"
            refine r_ninS (.inl (.inl (.inl (d.at ha)))) ?_
            walk_at "r"
            exact hR'
        · cases runB H3 el.1 v with
          | true =>
            walk_at "r"
            refine e_lst d.gr.gh rfl fun l4 G4 H4 e4 hl4 _ => ?_
            have d := d.grow e4
            have hLG := e4.new Lr hLG (by rw [hLr]; intro z; cases z)
            have hLr := e4.same _ _ hLr
            refine ⟨p, q, e, l4, start, el, ends, G4, posts, lanes, _, rfl, d.gr.gh, d.gp, d.pl, by omega, hparts.mono d.gr.gg, hnet, d.gr.gg _ _ he, he3, hen, hl4, helm, fun G5 H5 d5 => ?_, fun r R z G5 H5 d5 hr hw hz hRl => ?_⟩
            · walk_at "r"
              refine ⟨G5, .non, _, (d.trans d5).mono (by omega), (s23.trans e4.gg).trans d5.gr.gg, d5.gr.new Lr hLG (by rw [hLr]; intro z; cases z), ?_, .inl rfl, rfl⟩
              exact d5.gr.off _ _ (Ne.symm (d.ne hL0)) hLr
            · walk_at "r"
              refine ⟨G5, .ref r, _, (d.trans d5).mono (by omega), (s23.trans e4.gg).trans d5.gr.gg, d5.gr.new Lr hLG (by rw [hLr]; intro z; cases z), ?_, .inr ⟨r, R, z, rfl, hr, hw, hz, hRl⟩, rfl⟩
              exact d5.gr.off _ _ (Ne.symm (d.ne hL0)) hLr
          | false =>
            walk_at "r"
            exact ⟨G3, v, _, d.mono (by omega), s23, hLG, hLr, hv, rfl⟩
      · clear d hLG hLr
        rintro σ H3 ⟨G3, v, y8, d, s23, hLG, hLr, hv, rfl⟩
        walk_at "r"
        refine r_tyL hLr ?_
        walk_at "r"
        refine r_app hLr (small_lt (by omega)) ?_
        refine ⟨G3, rs ++ [v], _, _, _, (d.mut hLG hL0).mono ?_, hLG, upd_same, by rw [List.length_append, hrl]; rfl, ?_, rfl⟩
        · show n + 900 * i + 100 * 8 ≤ _
          omega
        · intro y hy
          rcases List.mem_append.mp hy with hy | hy
          · exact (hrs y hy).mono s23
          · rw [List.mem_singleton.mp hy]; exact hv
    · clear hLr hLG
      rintro σ H2 ⟨G2, rs, y6, y7, y8, d, hLG, hLr, hrl, hrs, rfl⟩
      rw [List.length_map, List.length_map] at hrl
      have sG := same_upd (o := .lst rs) hLG
      have d := (d.mono (show n + 900 * ((ws.map (·.1)).map V.str).length ≤ n + 9900 by rw [List.length_map, List.length_map]; omega)).tell hLr hL0
      have hLr : upd G2 Lr (.lst rs) Lr = some (.lst rs) := upd_same
      have hrs : ∀ v ∈ rs, RunO (upd G2 Lr (.lst rs)) lanes start ends v := fun v hv => (hrs v hv).mono sG
      revert d hLr hrs
      generalize upd G2 Lr (.lst rs) = G3
      intro d hLr hrs
      walk_at "r"
      refine ⟨wl, Lr, _, rs, rfl, .inl (.inl (d.at (d.gr.gg _ _ hwl))), .inl (.inl (d.at hLr)), ?_⟩
      refine for_it (walk_zip (n := ws.length) (by rw [List.length_map, List.length_map, hrl, Nat.min_self])) (fun i σ H' => ∃ (y6 y7 y8 : Option V), Dg p (n + 9900) G H G3 H' ∧ (∀ j, j < i → ∀ v w, rs[j]? = some v → ws[j]? = some w → RunW G3 lanes start ends v w) ∧
        σ = [some (.ref p), some (.ref q), some (.str start), some (.ref e), some (.ref wl), some (.ref Lr), y6, y7, y8]) ⟨_, _, _, d, fun j hj => absurd hj (Nat.not_lt_zero _), rfl⟩ (fun i σ H' _ ⟨_, _, _, d, _⟩ => ⟨.inl (.inl (d.at (d.gr.gg _ _ hwl))), .inl (.inl (d.at hLr))⟩) ?_ ?_
      · clear d
        rintro i v σ H3' H3 hi ⟨y6, y7, y8, d, hdone, rfl⟩ ⟨T1, x, v, rfl, hT, rfl, hx, hv⟩
        have hx : ((ws.map (·.1)).map V.str)[i]? = some x := hx
        have hv : rs[i]? = some v := hv
        rw [List.getElem?_map, List.getElem?_map] at hx
        obtain ⟨nm, h1, rfl⟩ := Option.map_eq_some_iff.mp hx
        obtain ⟨el, hel, rfl⟩ := Option.map_eq_some_iff.mp h1
        have d := d.newH (o := .tup [.str el.1, v]) hT
        refine r_gtup upd_same rfl ?_
        revert d
        generalize upd H3' T1 (.tup [.str el.1, v]) = H4
        intro d
        walk_at "r"
        rcases hrs v (List.mem_of_getElem? hv) with rfl | ⟨a, R, z, rfl, ha, hw, hz, hRl⟩
        · refine ⟨rfl, ?_⟩
          walk_at "r"
          refine r_yes rfl ?_
          walk_at "r"
          exact k1 _ _ (d.mono (by omega))
        · refine ⟨rfl, ?_⟩
          walk_at "r"
          refine r_no rfl ?_
          walk_at "r"
          refine r_ninS (ks := R.map (·.1)) (.inl (.inl (.inl (d.at ha)))) ?_
          walk_at "r"
          by_cases c : el.1 ∈ R.map (·.1)
          · refine r_no (by rw [decide_eq_true c]; rfl) ?_
            walk_at "r"
            refine ⟨_, _, _, d, ?_, rfl⟩
            intro j hj v' w' hv' hw'
            by_cases hji : j < i
            · exact hdone j hji v' w' hv' hw'
            · have : j = i := by omega
              subst this
              rw [hv] at hv'
              rw [hel] at hw'
              cases Option.some.inj hv'
              cases Option.some.inj hw'
              exact ⟨a, R, z, rfl, ha, hw, hz, hRl, c⟩
          · refine r_yes (by rw [decide_eq_false c]; rfl) ?_
            walk_at "r"
            exact k1 _ _ (d.mono (by omega))
      · clear d
        rintro σ H3 ⟨y6, y7, y8, d, hdone, rfl⟩
        walk_at "r"
        exact k2 Lr rs G3 H3 (d.mono (by omega)) hLr ⟨hrl, fun j v w hv hw => hdone j ((List.getElem?_eq_some_iff.mp hw).1) v w hv hw⟩
end
end K48
/-! ## KX1 -/
set_option maxHeartbeats 400000
namespace K48
open PySem L2
/-! ### d != {} and dict(d), for dicts with nested keys -/
section
variable {prog : Program} {w : World} {A : Around} {E : Value → Shared → Prop} {s : Shared}
theorem samePairs_nil {nm : String} {a b : Addr} {oa ob : Obj} {es : Array DictEntry} {ea eb : Nat} {Q : Bool → Shared → Prop} (la : (a == sysModules) = false) (lb : (b == sysModules) = false)
    (ga : s.heap.get? a = some oa) (da : oa.data = .dict es ea) (gb : s.heap.get? b = some ob) (db : ob.data = .dict #[] eb) (q : Q (es.size == 0) s) : wpAny (model prog w) A (Builtin.Dict.samePairs nm a b) Q E s := by
  unfold Builtin.Dict.samePairs
  unfold Builtin.Dict.showsAll
  rw [if_neg (by rw [la]; decide), if_neg (by rw [lb]; decide)]
  refine wpAny_bind <| wpAny_pure <| wpAny_bind <| wpAny_pure <| wpAny_bind <| wpAny_dictEntries ga da ?_
  dsimp only
  refine wpAny_bind <| wpAny_dictEntries gb db ?_
  by_cases c : es.size = 0
  · rw [c] at q
    have e0 : es = #[] := Array.eq_empty_of_size_eq_zero c
    subst e0
    rw [if_neg (by decide)]
    refine wpAny_bind <| wpAny_dictEpoch ga da <| wpAny_bind ?_
    rw [Std.Legacy.Range.forIn_eq_forIn_range']
    exact wpAny_pure (wpAny_pure q)
  · have c2 : (es.size == 0) = false := beq_eq_false_iff_ne.mpr c
    rw [c2] at q
    rw [if_pos (by show (es.size != 0) = true; rw [bne, c2]; rfl)]
    exact wpAny_bind <| wpAny_rule <| wpAny_pure q
theorem ne_nilD {a b : Addr} {oa ob : Obj} {es : Array DictEntry} {ea eb : Nat} {Q : Value → Shared → Prop} (la : (a == sysModules) = false) (lb : (b == sysModules) = false) (ta : s.TypeIs (.ref a) "dict") (tb : s.TypeIs (.ref b) "dict")
    (ga : s.heap.get? a = some oa) (da : oa.data = .dict es ea) (gb : s.heap.get? b = some ob) (db : ob.data = .dict #[] eb) (hu : A.units < cLine) (q : Q (.bool (!(es.size == 0))) s) : wpAny (model prog w) A (compareOp .NotEq (.ref a) (.ref b)) Q E s := by
  refine wpAny_richCompare_same_room (op := .NotEq) ta tb PySem.F.slot_dict_ne (wpAny_call_entry PySem.F.slot_dict_ne ta PySem.F.entry_dict_ne ?_ (PySem.F.args_dict_ne_2 _ _)) hu
  change wpAny _ _ (Builtin.Dict.dictSlotArgs "__ne__" ⟨[.ref a, .ref b], []⟩ >>= _) _ _ _
  refine wpAny_bind ?_
  unfold Builtin.Dict.dictSlotArgs
  refine wpAny_bind <| wpAny_notOrdered_dict ta ?_
  change wpAny _ _ (pure (Value.ref a, Value.ref b)) _ _ _
  refine wpAny_pure <| wpAny_bind <| wpAny_isInstance (T := "dict") tb PySem.F.sub_dict_dict ?_
  simp only [Bool.not_true, Bool.false_eq_true, if_false]
  refine wpAny_bind <| wpAny_pure <| wpAny_bind <| wpAny_pure <| wpAny_bind <| samePairs_nil la lb ga da gb db <| wpAny_pure ⟨_, rfl, ?_, ?_⟩
  · exact fun x => nomatch x
  · simpa using q
theorem call_dictH {K : Type} [DecidableEq K] {knd : HeapKind prog w K} {o : Addr} {xs : List (K × Addr × Value)} {Q : Value → Shared → Prop} (hu : knd.room A.in1.in1) (lo : (o == sysModules) = false) (ho : s.heap.DictOfH knd o xs)
    (ht : ∀ x ∈ xs, s.TypeIs (.ref x.2.1) "tuple") (hn : (xs.map fun x => knd.hash x.1).Nodup) (hz : xs.length ≤ sizeLine)
    (hk : ∀ y ∈ xs, knd.is (s.heap.push { cls := .type "dict", data := .dict #[] }) y.1 y.2.1)
    (q : ∀ h', h'.DictOfH knd s.heap.objs.size xs → Heap.SameBut s.heap.objs.size (s.heap.push { cls := .type "dict", data := .dict #[] }) h' → Q (.ref s.heap.objs.size) { s with heap := h' }) : wpAny (model prog w) A (call (.type "dict") [.ref o]) Q E s := by
  refine callType_codes (Q₁ := fun v s1 => v = .ref s.heap.objs.size ∧ s1 = { s with heap := s.heap.push { cls := .type "dict", data := .dict #[] } }) PySem.F.kt_called_dict (PySem.F.kt_typeCall_dict_1 _) PySem.F.entry_dict_init (kt_code_dict_new _ ⟨rfl, rfl⟩) ?_
  intro v s1 hv
  obtain ⟨rfl, rfl⟩ := hv
  have n1 := Heap.DictOfH.new (knd := knd) s.heap
  have n2 : (s.heap.push { cls := .type "dict", data := .dict #[] }).DictOfH knd o xs := ho.at' (fun _ e => Heap.get?_push_of_some _ e) hk
  have ne : s.heap.objs.size ≠ o := fun e => absurd ho.lt_size (by rw [← e]; exact Nat.lt_irrefl _)
  have t2 : ∀ x ∈ xs, Shared.TypeIs { s with heap := s.heap.push { cls := .type "dict", data := .dict #[] } } (.ref x.2.1) "tuple" := fun x hx => by
    obtain ⟨ob, g, c⟩ := ht x hx
    exact ⟨ob, Heap.get?_push_of_some _ g, c⟩
  refine ⟨n1.typeIs, PySem.F.args_dict_init_2 _ _, ?_⟩
  unfold Builtin.«dict.__init__»
  refine wpAny_bind ?_
  unfold Builtin.Dict.selfAndRest
  refine wpAny_bind <| wpAny_notOrdered_dict n1.typeIs ?_
  change wpAny _ _ (pure (s.heap.objs.size, [Value.ref o])) _ _ _
  refine wpAny_pure ?_
  change wpAny _ _ (Builtin.Dict.updateFrom "dict.__init__" s.heap.objs.size (.ref o) [] .none) _ _ _
  refine updateFrom_dictH (R := wants _ _) .none hu ne lo n1 n2 (.inr ⟨t2, hn⟩) (by simpa using hz) fun h' hd _ hs => ?_
  rw [storedAllH_nil_of_nodup xs ho.nodup] at hd
  exact ⟨rfl, q h' hd hs⟩
end
section
variable {X : Cx}
def rNeN (P : Program) (w : World) : R2 := fun x y H Q => ∃ a b kvs, x = .ref a ∧ y = .ref b ∧ H a = some (dN P w a kvs) ∧ H b = some (dN P w b []) ∧ Q (.bl (!kvs.isEmpty)) H
theorem dn_raw {P : Program} {w : World} {H : Hp} {h : Heap} {d : Addr} {kvs : List NEnt} (ok : HOk P w H h) (e : H d = some (dN P w d kvs)) : ∃ o es ep, (d == sysModules) = false ∧ h.get? d = some o ∧ o.ExactDict ∧ o.data = .dict es ep ∧ es.size = kvs.length := by
  obtain ⟨⟨hd, z, xs, r, o, es, ep, h1, h2, h3, h4, h5⟩, _⟩ := (show ObjOk P w H h d (dN P w d kvs) from ok d _ e)
  refine ⟨o, es, ep, hd, h1, h2, h3, ?_⟩
  rw [← Array.length_toList, h4, List.length_map, Paired.length r]
theorem op_neN (hu : X.A.units < cLine) : OpR X (compareOp .NotEq) (rNeN X.prog X.w) := by
  intro pins s σ H x y u v Q I rx ry q
  obtain ⟨a, b, kvs, ex, ey, ha, hb, q⟩ := q
  subst ex ey
  obtain rfl : u = Value.ref a := rx
  obtain rfl : v = Value.ref b := ry
  obtain ⟨oa, es, ea, la, ga, xa, da, za⟩ := dn_raw I.hok ha
  obtain ⟨ob, es2, eb, lb, gb, xb, db, zb⟩ := dn_raw I.hok hb
  have e0 : es2 = #[] := Array.eq_empty_of_size_eq_zero zb
  subst e0
  refine ne_nilD la lb ⟨oa, ga, xa.1⟩ ⟨ob, gb, xb.1⟩ ga da gb db hu ⟨.bl (!kvs.isEmpty), H, I, ?_, q⟩
  rw [za]
  cases kvs <;> rfl
def rDictN (P : Program) (w : World) : List V → Hp → VK → Prop := fun xs H Q => ∃ a kvs, xs = [.ref a] ∧ H a = some (dN P w a kvs) ∧ NKeys H kvs ∧ kvs.length ≤ 1 ∧ ∀ p, H p = none → Q (.ref p) (upd H p (dN P w p kvs))
theorem nodup_le1 {α : Type} : ∀ {l : List α}, l.length ≤ 1 → l.Nodup
  | [], _ => List.nodup_nil
  | [_], _ => by simp
  | _ :: _ :: _, h => absurd h (by simp)
theorem call_dictN (hu : X.A.units + 64 < cLine) : CallR X (.type "dict") (rDictN X.prog X.w) := by
  intro pins s σ H xs us Q I r q
  obtain ⟨a, kvs, ex, ha, hk, h1, q⟩ := q
  subst ex
  obtain ⟨u, eu, rx⟩ := vals1 r
  subst eu
  cases rx
  obtain ⟨z, ld, ys, rel, dd⟩ := dn_rd I.hok (.of ha) hk
  have hfree := I.hok.fresh (Nat.le_refl s.heap.objs.size)
  have I1 := I.laid (a := s.heap.objs.size) (o := dN X.prog X.w s.heap.objs.size []) (h' := s.heap.push { cls := .type "dict", data := .dict #[] }) (t' := s.toks) (fun _ _ e => Heap.get?_push_of_some _ e) (Nat.le_refl _) (dn_empty s.heap I.big)
  have hk1 : NKeys (upd H s.heap.objs.size (dN X.prog X.w s.heap.objs.size [])) kvs := hk.mono (same_upd hfree)
  have lz : ys.length ≤ 1 := by rw [← Paired.length rel]; exact h1
  have keys : ∀ y ∈ ys, ∃ e ∈ kvs, e.1 = y.1 ∧ e.2.1 = y.2.1 := by
    clear z dd lz hk hk1 h1 ha q
    induction rel with
    | nil => intro y hy; cases hy
    | @cons e y es ys he t ih =>
      intro y' hy
      rcases List.mem_cons.mp hy with rfl | hy
      · exact ⟨e, List.mem_cons_self, he.1, he.2.1⟩
      · obtain ⟨e', h1, h2⟩ := ih y' hy
        exact ⟨e', List.mem_cons_of_mem _ h1, h2⟩
  refine call_dictH (knd := nestedKind X.prog X.w) (by show X.A.units + 1 + 1 + 8 < cLine; omega) ld dd (fun y hy => ?_) ?_ (by rw [← Paired.length rel]; exact z) (fun y hy => ?_) fun h' d' hs => ?_
  · obtain ⟨e, he, e1, e2⟩ := keys y hy
    obtain ⟨hv, _⟩ := hk e he
    rw [← e2]
    clear e1 e2 keys
    obtain ⟨ek, eb, ev⟩ := e
    cases hv with
    | tup g l =>
      obtain ⟨_, its, rv, o, g1, g2, n, g3⟩ := (show ObjOk X.prog X.w H s.heap eb (.tup _) from I.hok _ _ g)
      exact ⟨o, g1, g2⟩
  · exact nodup_le1 (by rw [List.length_map]; exact lz)
  · obtain ⟨e, he, e1, e2⟩ := keys y hy
    obtain ⟨hv, h8⟩ := hk1 e he
    rw [← e1, ← e2]
    exact ⟨NkV.is I1.hok _ _ _ hv rfl, h8⟩
  · obtain ⟨o, es, ep, g1, g2, g3, g4, _, g5⟩ := d'
    have lm : (s.heap.objs.size == sysModules) = false := beq_eq_false_iff_ne.mpr (Ne.symm (Nat.ne_of_lt I.big))
    exact ⟨.ref s.heap.objs.size, _, I.laid (t' := s.toks) (o := dN X.prog X.w s.heap.objs.size kvs) (fun b u e => (hs.2 b (Nat.ne_of_lt (Heap.lt_size e))).trans (Heap.get?_push_of_some _ e)) (Nat.le_refl _) (dn_ok z lm rel g1 g2 g3 g4 g5), rfl, q _ hfree⟩
end
end K48
/-! ## KM2 -/
set_option maxHeartbeats 4000000
namespace K48
open PySem L2
local macro_rules | `(tactic| walk_at "r1") => `(tactic| first
  | with_reducible refine r_seq ?_ | with_reducible refine r_asg ?_ | with_reducible refine r_ret ?_ | with_reducible refine r_drop ?_ | with_reducible refine r_if ?_ | with_reducible refine r_next ?_
  | with_reducible refine r_name ?_ | with_reducible refine r_c ?_ | ((with_reducible show tVar _ _ _ _); refine r_var rfl ?_) | with_reducible refine r_op ?_ | with_reducible refine r_un ?_
  | with_reducible refine r_i0 ?_ | with_reducible refine r_test ?_ | with_reducible refine r_tB ?_ | with_reducible refine r_bl ?_ | with_reducible refine r_and ?_ | with_reducible refine r_or ?_
  | with_reducible refine r_not ?_ | with_reducible refine r_ifE ?_ | with_reducible refine r_cons ?_ | with_reducible refine r_nil ?_ | with_reducible refine r_cb ?_ | with_reducible refine r_call ?_
  | with_reducible refine r_lstG ?_ | with_reducible refine r_tupG ?_ | with_reducible refine r_sl ?_ | with_reducible refine r_noP ?_ | with_reducible refine r_part ?_ | with_reducible refine r_exI ?_
  | with_reducible refine r_tr ?_ | with_reducible refine r_fa ?_ | with_reducible refine r_for ?_ | with_reducible refine r_iList ?_ | with_reducible refine r_iTup ?_ | with_reducible refine r_iStr ?_
  | with_reducible refine r_iR1 ?_ | with_reducible refine r_iR2 ?_ | with_reducible refine r_lc ?_ | with_reducible refine r_nt ?_ | with_reducible refine r_nf ?_ | with_reducible refine r_orV ?_ | with_reducible refine r_andV ?_ | with_reducible refine r_yesT ?_ | with_reducible refine r_gsub ?_ | with_reducible refine r_gcons ?_ | with_reducible refine r_gnil ?_ | with_reducible refine r_bm ?_ | with_reducible refine r_bm0 ?_
  | with_reducible refine r_fldG ?_ | with_reducible refine r_sfldG ?_ | with_reducible refine r_meth ?_ | with_reducible refine r_make ?_ | with_reducible refine r_dget ?_ | with_reducible refine r_din ?_ | with_reducible refine r_dnin ?_ | with_reducible refine r_dput ?_
  | with_reducible refine r_dgetN ?_ | with_reducible refine r_dinN ?_ | with_reducible refine r_dninN ?_ | with_reducible refine r_dputN ?_ | ((with_reducible show tAug _ _ _ _ _ _); refine r_aug rfl ?_) | with_reducible refine r_par ?_ | with_reducible refine r_neg ?_ | with_reducible refine r_iEnum ?_ | with_reducible refine r_iZip ?_ | with_reducible refine r_iZipA ?_)
local macro_rules | `(tactic| walk_at "r") => `(tactic| repeat walk_at "r1")

/-! ### standings as keys -/
def skey (s : Stand Str) : NestedKey := .tup [.text s.1, .tup (s.2.1.map fun n : Nat => .num (n : Int)), .tup (s.2.2.map .text)]
theorem map_inj' {α β : Type} {f : α → β} (hf : ∀ x y, f x = f y → x = y) : ∀ {l m : List α}, l.map f = m.map f → l = m
  | [], [], _ => rfl
  | [], _ :: _, h => by cases h
  | _ :: _, [], h => by cases h
  | a :: l, b :: m, h => by
    rw [List.map_cons, List.map_cons] at h
    injection h with h1 h2
    rw [hf _ _ h1, map_inj' hf h2]
theorem skey_inj {s t : Stand Str} (h : skey s = skey t) : s = t := by
  obtain ⟨a, b, c⟩ := s
  obtain ⟨a', b', c'⟩ := t
  unfold skey at h
  injection h with h
  injection h with h1 h
  injection h with h2 h
  injection h with h3 _
  injection h1 with h1
  injection h2 with h2
  injection h3 with h3
  have e2 : b = b' := map_inj' (f := fun n : Nat => NestedKey.num (n : Int)) (fun x y z => by injection z with z; omega) h2
  have e3 : c = c' := map_inj' (f := NestedKey.text) (fun x y z => by injection z) h3
  rw [e2, e3]
  have h1' : a = a' := h1
  rw [h1']
theorem skey_mem {s : Stand Str} {l : List (Stand Str)} : skey s ∈ l.map skey ↔ s ∈ l := by
  constructor
  · intro h
    obtain ⟨t, ht, e⟩ := List.mem_map.mp h
    rw [← skey_inj e]; exact ht
  · exact fun h => List.mem_map.mpr ⟨s, h, rfl⟩
theorem skey_depth (s : Stand Str) : (skey s).depth ≤ 8 := by
  have hn : ∀ l : List Nat, NestedKey.depthAll (l.map fun n : Nat => .num (n : Int)) ≤ 1 := fun l => by
    induction l with
    | nil => simp [NestedKey.depthAll]
    | cons a l ih => simp only [List.map_cons, NestedKey.depthAll, NestedKey.depth]; omega
  have ht : ∀ l : List Str, NestedKey.depthAll (l.map NestedKey.text) ≤ 1 := fun l => by
    induction l with
    | nil => simp [NestedKey.depthAll]
    | cons a l ih => simp only [List.map_cons, NestedKey.depthAll, NestedKey.depth]; omega
  have h1 := hn s.2.1
  have h2 := ht s.2.2
  simp only [skey, NestedKey.depth, NestedKey.depthAll]
  omega
theorem nkl_nums {H : Hp} : ∀ l : List Nat, NkL H (l.map natV) (l.map fun n : Nat => .num (n : Int))
  | [] => .nil
  | n :: l => .cons (.num _) (nkl_nums l)
theorem nkl_texts {H : Hp} : ∀ l : List Str, NkL H (l.map V.str) (l.map NestedKey.text)
  | [] => .nil
  | n :: l => .cons (.text _) (nkl_texts l)
theorem nkl_nums' {H : Hp} : ∀ {l : List Nat} {vs : List V}, NkL H vs (l.map fun n : Nat => .num (n : Int)) → vs = l.map natV
  | [], _, h => by cases h; rfl
  | n :: l, _, h => by
    cases h with
    | cons h1 h2 =>
      cases h1
      rw [nkl_nums' h2]; rfl
theorem nkl_texts' {H : Hp} : ∀ {l : List Str} {vs : List V}, NkL H vs (l.map NestedKey.text) → vs = l.map V.str
  | [], _, h => by cases h; rfl
  | n :: l, _, h => by
    cases h with
    | cons h1 h2 =>
      cases h1
      rw [nkl_texts' h2]; rfl
/-- a standing's tuple -/
structure StandAt (H : Hp) (q : Addr) (s : Stand Str) : Prop where
  ex : ∃ a b, H q = some (.tup [.str s.1, .ref a, .ref b]) ∧ NatT H a s.2.1 ∧ StrT H b s.2.2
theorem StandAt.mono {H H' : Hp} {q : Addr} {s : Stand Str} (h : Same H H') (x : StandAt H q s) : StandAt H' q s := by
  obtain ⟨a, b, h1, h2, h3⟩ := x.ex
  exact ⟨a, b, h _ _ h1, h _ _ h2, h _ _ h3⟩
theorem StandAt.nk {H : Hp} {q : Addr} {s : Stand Str} (x : StandAt H q s) : NkV H (.ref q) (skey s) := by
  obtain ⟨a, b, h1, h2, h3⟩ := x.ex
  exact .tup h1 (.cons (.text _) (.cons (.tup h2 (nkl_nums _)) (.cons (.tup h3 (nkl_texts _)) .nil)))
theorem StandAt.of {H : Hp} {q : Addr} {s : Stand Str} (h : NkV H (.ref q) (skey s)) : StandAt H q s := by
  unfold skey at h
  cases h with
  | tup h1 h =>
    cases h with
    | cons g1 h =>
      cases h with
      | cons g2 h =>
        cases h with
        | cons g3 h =>
          cases h
          cases g1
          cases g2 with
          | tup k2 l2 =>
            cases g3 with
            | tup k3 l3 =>
              have e2 := nkl_nums' l2
              have e3 := nkl_texts' l3
              subst e2 e3
              exact ⟨_, _, h1, k2, k3⟩
/-- a dict of standings: the keys, all different -/
structure StandD (G : Hp) (kvs : List NEnt) (ss : List (Stand Str)) : Prop where
  keys : kvs.map (·.1) = ss.map skey
  nk : NKeys G kvs
  nd : ss.Nodup
section
variable {G G' : Hp} {kvs : List NEnt} {ss : List (Stand Str)} {s : Stand Str} {q : Addr} {v : V}
theorem StandD.nil : StandD G [] [] := ⟨rfl, (fun _ h => by cases h), List.nodup_nil⟩
theorem StandD.mono (h : Same G G') (x : StandD G kvs ss) : StandD G' kvs ss := ⟨x.keys, x.nk.mono h, x.nd⟩
theorem StandD.len (x : StandD G kvs ss) : kvs.length = ss.length := by
  have := congrArg List.length x.keys
  rwa [List.length_map, List.length_map] at this
theorem StandD.isSome (x : StandD G kvs ss) : (atN kvs (skey s)).isSome = decide (s ∈ ss) := by
  by_cases c : s ∈ ss
  · rw [decide_eq_true c]
    cases e : atN kvs (skey s) with
    | none => exact absurd (skey_mem.mpr c) (by rw [← x.keys]; exact atN_none.mp e)
    | some v => rfl
  · rw [decide_eq_false c]
    cases e : atN kvs (skey s) with
    | none => rfl
    | some v =>
      obtain ⟨b, hb⟩ := atN_mem e
      exact absurd (skey_mem.mp (by rw [← x.keys]; exact List.mem_map.mpr ⟨_, hb, rfl⟩)) c
theorem StandD.at (x : StandD G kvs ss) {i : Nat} {k : NestedKey} (h : kvs[i]? = some (k, q, v)) : ∃ s, ss[i]? = some s ∧ k = skey s ∧ StandAt G q s := by
  have h1 : (kvs.map (·.1))[i]? = some k := by rw [List.getElem?_map, h]; rfl
  rw [x.keys, List.getElem?_map] at h1
  obtain ⟨s, hs, e⟩ := Option.map_eq_some_iff.mp h1
  refine ⟨s, hs, e.symm, .of ?_⟩
  have := (x.nk _ (List.mem_of_getElem? h)).1
  rw [e]
  exact this
theorem StandD.put (x : StandD G kvs ss) (hs : s ∉ ss) (hq : StandAt G q s) : StandD G (putN kvs (skey s) q v) (ss ++ [s]) ∧ putN kvs (skey s) q v = kvs ++ [(skey s, q, v)] := by
  have hn : atN kvs (skey s) = none := by
    have := x.isSome (s := s)
    rw [decide_eq_false hs] at this
    cases e : atN kvs (skey s) with
    | none => rfl
    | some v => rw [e] at this; cases this
  have e := putN_new (b := q) (v := v) hn
  refine ⟨?_, e⟩
  rw [e]
  refine ⟨by rw [List.map_append, List.map_append, x.keys]; rfl, fun en hen => ?_, ?_⟩
  · rcases List.mem_append.mp hen with h | h
    · exact x.nk en h
    · rw [List.mem_singleton.mp h]
      exact ⟨hq.nk, skey_depth s⟩
  · rw [List.nodup_append]
    exact ⟨x.nd, by simp, fun a ha b hb e => hs (by rw [List.mem_singleton.mp hb] at e; exact e ▸ ha)⟩
theorem StandD.over (x : StandD G kvs ss) (hs : s ∈ ss) : StandD G (putN kvs (skey s) q v) ss := by
  have hn : (atN kvs (skey s)).isSome = true := by rw [x.isSome]; exact decide_eq_true hs
  unfold putN
  rw [if_pos hn]
  refine ⟨?_, ?_, x.nd⟩
  · rw [← x.keys, List.map_map]
    refine List.map_congr_left fun e _ => ?_
    show (if e.1 = skey s then (e.1, e.2.1, v) else e).1 = e.1
    by_cases c : e.1 = skey s
    · rw [if_pos c]
    · rw [if_neg c]
  · intro e he
    obtain ⟨e', he', h⟩ := List.mem_map.mp he
    have := x.nk e' he'
    by_cases c : e'.1 = skey s
    · rw [if_pos c] at h
      rw [← h]; exact this
    · rw [if_neg c] at h
      rw [← h]; exact this
/-- in either case -/
theorem StandD.add (x : StandD G kvs ss) (hq : StandAt G q s) : StandD G (putN kvs (skey s) q v) (if s ∈ ss then ss else ss ++ [s]) := by
  by_cases c : s ∈ ss
  · rw [if_pos c]; exact x.over c
  · rw [if_neg c]; exact (x.put c hq).1
end
end K48
/-! ## KD14 -/
set_option maxHeartbeats 4000000
namespace K48
open PySem L2
local macro_rules | `(tactic| walk_at "r1") => `(tactic| first
  | with_reducible refine r_seq ?_ | with_reducible refine r_asg ?_ | with_reducible refine r_ret ?_ | with_reducible refine r_drop ?_ | with_reducible refine r_if ?_ | with_reducible refine r_next ?_
  | with_reducible refine r_name ?_ | with_reducible refine r_c ?_ | ((with_reducible show tVar _ _ _ _); refine r_var rfl ?_) | with_reducible refine r_op ?_ | with_reducible refine r_un ?_
  | with_reducible refine r_i0 ?_ | with_reducible refine r_test ?_ | with_reducible refine r_tB ?_ | with_reducible refine r_bl ?_ | with_reducible refine r_and ?_ | with_reducible refine r_or ?_
  | with_reducible refine r_not ?_ | with_reducible refine r_ifE ?_ | with_reducible refine r_cons ?_ | with_reducible refine r_nil ?_ | with_reducible refine r_cb ?_ | with_reducible refine r_call ?_
  | with_reducible refine r_lstG ?_ | with_reducible refine r_tupG ?_ | with_reducible refine r_sl ?_ | with_reducible refine r_noP ?_ | with_reducible refine r_part ?_ | with_reducible refine r_exI ?_
  | with_reducible refine r_tr ?_ | with_reducible refine r_fa ?_ | with_reducible refine r_for ?_ | with_reducible refine r_iList ?_ | with_reducible refine r_iTup ?_ | with_reducible refine r_iStr ?_
  | with_reducible refine r_iR1 ?_ | with_reducible refine r_iR2 ?_ | with_reducible refine r_lc ?_ | with_reducible refine r_nt ?_ | with_reducible refine r_nf ?_ | with_reducible refine r_orV ?_ | with_reducible refine r_andV ?_ | with_reducible refine r_yesT ?_ | with_reducible refine r_gsub ?_ | with_reducible refine r_gcons ?_ | with_reducible refine r_gnil ?_ | with_reducible refine r_bm ?_ | with_reducible refine r_bm0 ?_
  | with_reducible refine r_fldG ?_ | with_reducible refine r_sfldG ?_ | with_reducible refine r_meth ?_ | with_reducible refine r_make ?_ | with_reducible refine r_dget ?_ | with_reducible refine r_din ?_ | with_reducible refine r_dnin ?_ | with_reducible refine r_dput ?_
  | with_reducible refine r_dgetN ?_ | with_reducible refine r_dinN ?_ | with_reducible refine r_dninN ?_ | with_reducible refine r_dputN ?_ | ((with_reducible show tAug _ _ _ _ _ _); refine r_aug rfl ?_) | with_reducible refine r_par ?_ | with_reducible refine r_neg ?_ | with_reducible refine r_iEnum ?_ | with_reducible refine r_iZip ?_ | with_reducible refine r_iZipA ?_)
local macro_rules | `(tactic| walk_at "r") => `(tactic| repeat walk_at "r1")

theorem subs_le {B : Type} : ∀ {l x : List B}, x ∈ subs l → x.length ≤ l.length
  | [], x, h => by
    rw [List.mem_singleton.mp h]; exact Nat.le_refl _
  | a :: l, x, h => by
    rcases List.mem_append.mp h with h | h
    · exact Nat.le_succ_of_le (subs_le h)
    · obtain ⟨y, hy, rfl⟩ := List.mem_map.mp h
      exact Nat.succ_le_succ (subs_le hy)
theorem univ_places {A : Type} [DecidableEq A] {posts : List A} {n : Nat} {w : A} {s : Stand A} (h : s ∈ univ posts n w) : s.2.1.length ≤ n ∧ s.2.2.length ≤ 1 := by
  obtain ⟨p, _, h⟩ := List.mem_flatMap.mp h
  obtain ⟨ps, hps, h⟩ := List.mem_flatMap.mp h
  have := subs_le hps
  rw [List.length_range] at this
  rcases List.mem_cons.mp h with rfl | h
  · exact ⟨this, Nat.zero_le _⟩
  · rw [List.mem_singleton.mp h]; exact ⟨this, Nat.le_refl _⟩
section
variable {σ : St} {H : Hp} {Q : VK} {te tk tv : TE} {R : It → Hp → Prop} {P : Program} {w : World} {D : Ends} {t : TS}
theorem r_iKeysN (k : te σ H fun x H1 => ∃ d o kvs, x = .ref d ∧ H1 d = some (.frz o (dN P w d kvs)) ∧ NKeys H1 kvs ∧ R (Itkn P w d o kvs) H1) : iKeysN P w te σ H R := k
theorem r_newN (k : ∀ d H2, Same H H2 → H2 d = some (dN P w d []) → H d = none → Q (.ref d) H2) : tNNew P w σ H Q := fun d hd => k d _ (same_upd hd) upd_same hd
def oneP (P : Program) (w : World) (Q : VK) (p : Addr) (y z : V) (H2 : Hp) : Prop := ∃ b k, y = .ref b ∧ NkV H2 (.ref b) k ∧ k.depth ≤ 8 ∧ H2 p = some (dN P w p []) ∧ Q (.ref p) (upd H2 p (dN P w p [(k, b, z)]))
theorem oneP.mk {p b : Addr} {k : NestedKey} {z : V} (hk : NkV H (.ref b) k) (h8 : k.depth ≤ 8) (hp : H p = some (dN P w p [])) (q : ∀ H3, H3 p = some (dN P w p [(k, b, z)]) → (∀ r, r ≠ p → H3 r = H r) → Q (.ref p) H3) : oneP P w Q p (.ref b) z H :=
  ⟨b, k, rfl, hk, h8, hp, q _ upd_same fun r hr => upd_ne hr⟩
theorem r_oneN (k : ∀ p H1, Same H H1 → H1 p = some (dN P w p []) → H p = none → tk σ H1 fun y H1 => tv σ H1 fun z H2 => oneP P w Q p y z H2) : tNOne P w tk tv σ H Q :=
  fun p hp => k p _ (same_upd hp) upd_same hp
end
theorem Grow.chg {m : Addr → Prop} {G H G1 H1 H2 : Hp} {p : Addr} (g : Grow m G H G1 H1) (h1 : G1 p = none) (h2 : H p = none) (hr : ∀ r, r ≠ p → H2 r = H1 r) : Grow m G H G1 H2 where
  off := fun q u n e => by
    have hq : q ≠ p := fun z => by rw [z, h2] at e; cases e
    rw [hr q hq]
    exact g.off q u n e
  gg := g.gg
  gh := fun q u e => by
    have hq : q ≠ p := fun z => by rw [z, h1] at e; cases e
    rw [hr q hq]
    exact g.gh q u e
  new := g.new
def spLeast : Sp := fun vs H Q _ => ∃ (q e wl a : Addr) (start w : Str) (ends : List Str) (m : ML Str) (G : Hp) (posts : List Str) (lanes : List (Lane Str)), vs = [.ref q, .str start, .ref e, .ref wl, .ref a] ∧ Same G H ∧ PartsAt G q posts lanes ∧ NetD posts lanes ∧ StrL G e ends ∧ StrL G wl [w] ∧
  MachL G a m ∧ m.atoms.length ≤ 5 ∧ start ∈ posts ∧ ((¬ ∃ R, Avoid lanes m.mach start ends w R) → ∀ H', Same H H' → Q .non H') ∧ ((∃ R, Avoid lanes m.mach start ends w R) → ∀ (n : Int) H', Same H H' → Q (.int n) H')
section
variable {P : Program} {w : World} {K : PySem.W.Frag} {mg : Str → Option Value} {base : Heap}
abbrev st__law_least_run : Stmt := topS 96
abbrev N__law_least_run : List Str := ["_law_parts", "_law_start", "_law_ends_here", "_law_wanted", "_law_machine_here", "_law_lanes_here", "_law_level", "_law_known", "_law_size", "_law_further", "_law_post", "_law_places", "_law_done_here", "_law_lane", "_law_behind", "_law_one", "_law_more", "_law_standing"]
theorem sc__law_least_run : FnScope N__law_least_run ["_law_parts", "_law_start", "_law_ends_here", "_law_wanted", "_law_machine_here"] (defScope st__law_least_run) := ⟨rfl, rfl, rfl, by decide +kernel, rfl, by decide +kernel, by decide +kernel⟩
theorem ok__law_least_run (T : Top K mg) (F : Dn K mg "_law_least_run" st__law_least_run) (c__law_ends : Cal P w K mg base 1 "_law_ends" spEndsL) (c__law_led : Cal P w K mg base 2 "_law_led" spLedL) (c__law_done : Cal P w K mg base 1 "_law_done" spDoneL) : Cal P w K mg base 3 "_law_least_run" spLeast := by
  refine F.cal sc__law_least_run (fun vs H Q E h => ?_) (fun _ _ _ _ _ _ us hl => match us, hl with | [_, _, _, _, _], _ => rfl) (fun f cdv A outer s H vs Q E hr h => ?_)
  · obtain ⟨q, e, wl, a, start, w, ends, m, G, posts, lanes, rfl, _⟩ := h
    rfl
  · obtain ⟨q, e, wl, a, start, wn, ends, m, G, posts, lanes, rfl, sg, hparts, hnet, he, hwl, hm, hm5, hst, k1, k2⟩ := h
    have h8 := hnet.l8
    have hp5 := hnet.p5
    obtain ⟨x1, f1, l1, pa, vs, ws, m0, _⟩ := hm.ex
    have g0 := Grow.refl sg (m := no)
    refine ⟨_, (pss_cons (ps_if (pt_val (pe_ix ix_list (pv 4) pe_int (fun _ _ => rfl))) (pss_one (ps_ret pe_non)) pss_nil)
  (pss_cons (ps_set (i := 5) sc__law_least_run.nd rfl (Or.inl rfl) (C8.pe_c c__law_ends hr (by omega) rfl (pa_cons (pv 0) pa_nil)))
  (pss_cons (ps_set (i := 6) sc__law_least_run.nd rfl (Or.inl rfl) (pe_disp1N hr.units (pe_tup (pa_cons (pv 1) (pa_cons (pe_tup pa_nil) (pa_cons (pe_tup pa_nil) pa_nil)))) pe_bl))
  (pss_cons (ps_set (i := 7) sc__law_least_run.nd rfl (Or.inl rfl) (pe_callTy (call_dictN hr.units : CallR _ _ (rDictN P w)) rfl T.b_dict (by decide +kernel) (pa_cons (pv 6) pa_nil)))
  (pss_cons (ps_set (i := 8) sc__law_least_run.nd rfl (Or.inl rfl) pe_int)
  (pss_cons (ps_while PassesOwn.never (pt_cmpR (op_neN hr.units0) (pv 6) pe_dnewN (nomark _)) (pss_cons (ps_set (i := 9) sc__law_least_run.nd rfl (Or.inl rfl) pe_dnewN)
  (pss_cons (ps_lock (ps_for PassesOwn.never rfl (pi_keysN (pv 6)) (pg_tup rfl (pgs_cons (pg_name (i := 10) sc__law_least_run.nd rfl (Or.inl rfl)) (pgs_cons (pg_name (i := 11) sc__law_least_run.nd rfl (Or.inl rfl)) (pgs_cons (pg_name (i := 12) sc__law_least_run.nd rfl (Or.inr rfl)) pgs_nil)))) (pss_cons (ps_if (PW.pt (pw_and (pt_cmpR op_in_seq (pv 10) (pv 2) (by rfl)) (pw_and1 (pt_cmpR op_eq (pe_callB (call_len_seq : CallR _ _ (rLenQ K)) rfl T.b_len (by decide +kernel) (pa_cons (pv 12) pa_nil)) (pe_callB (call_len_seq : CallR _ _ (rLenQ K)) rfl T.b_len (by decide +kernel) (pa_cons (pv 3) pa_nil)) (nomark _))))) (pss_one (ps_ret (pv 8))) pss_nil)
  (pss_one (ps_lock (ps_for PassesOwn.never rfl (pi_keys (pv 5)) (pg_name (i := 13) sc__law_least_run.nd rfl (Or.inr rfl)) (pss_cons (ps_set (i := 14) sc__law_least_run.nd rfl (Or.inl rfl) (C8.pe_c c__law_led hr (by omega) rfl (pa_cons (pv 4) (pa_cons (pv 11) (pa_cons (pv 13) (pa_cons pe_bl pa_nil))))))
  (pss_one (ps_if (PW.pt (pw_and (pt_cmpR op_eq (pe_ix ix_tup (pe_dget (hu1 hr) (pv 5) (pv 13) (fun _ _ => rfl)) pe_int (fun _ _ => rfl)) (pv 10) (nomark _)) (pw_and1 (pt_not (pt_val (C8.pe_c c__law_done hr (by omega) rfl (pa_cons (pv 4) (pa_cons (pv 14) pa_nil)))))))) (pss_cons (ps_set (i := 16) sc__law_least_run.nd rfl (Or.inl rfl) (pe_callTy (call_tuple_of : CallR _ _ (rTupQ K)) rfl T.b_tuple (by decide +kernel) (pa_cons (pe_lc (own := [("_law_one", 15)]) (g := (gName 15)) rfl sc__law_least_run.nd (pi_list (pv 3)) (blkOk_by (N := N__law_least_run) (sc := defScope st__law_least_run) (by decide +kernel)) (fun _ _ _ _ _ => (pg_name (i := 15) sc__law_least_run.nd rfl (Or.inl rfl))) (fun _ _ _ _ _ => (pts_one (PW.pt (pw_or (pt_cmpR (op_in_seq : OpR _ _ (rIn K false)) (pv 15) (pv 12) (by rfl)) (pw_or1 (pt_cmpR op_eq (pv 15) (pv 13) (nomark _))))))) (fun _ _ _ _ _ => (pv 15))) pa_nil)))
  (pss_one (ps_dputN hr.units (pv 9) (pe_tup (pa_cons (pe_ix ix_tup (pe_dget (hu1 hr) (pv 5) (pv 13) (fun _ _ => rfl)) pe_int (fun _ _ => rfl)) (pa_cons (pv 14) (pa_cons (pv 16) pa_nil)))) pe_bl rfl))) pss_nil)))))))))
  (pss_cons (ps_set (i := 6) sc__law_least_run.nd rfl (Or.inl rfl) pe_dnewN)
  (pss_cons (ps_lock (ps_for PassesOwn.never rfl (pi_keysN (pv 9)) (pg_name (i := 17) sc__law_least_run.nd rfl (Or.inl rfl)) (pss_one (ps_if (pt_cmp (pc_dnotinN hr.units (pv 17) (pv 7)) rfl) (pss_cons (ps_dputN hr.units (pv 7) (pv 17) pe_bl rfl)
  (pss_one (ps_dputN hr.units (pv 6) (pv 17) pe_bl rfl))) pss_nil))))
  (pss_one (ps_set (i := 8) sc__law_least_run.nd rfl (Or.inl rfl) (pe_op op_add (pv 8) pe_int))))))))
  (pss_one (ps_ret pe_non)))))))), ?_⟩
    walk_at "r"
    refine r_ixL (j := 4) (g0.at m0) rfl ?_
    walk_at "r"
    cases ho : m.opt with
    | true =>
      walk_at "r"
      refine k1 (fun ⟨R, h⟩ => ?_) _ (Same.refl H)
      have := h.opt
      rw [show m.mach.opt = m.opt from rfl, ho] at this
      cases this
    | false =>
      walk_at "r"
      refine ⟨q, G, posts, lanes, rfl, g0.gh, hparts, hnet.ln.nd, h8, fun dd kvs G1 H1 g hd0 hdG hd hk => ?_⟩
      walk_at "r"
      refine r_oneN fun lv H2 s2 hlv hlv0 => ?_
      have hl0 := g.freeN hlv0
      have hlG := g.free1 hlv0
      have g := g.heap s2
      have hd := s2 _ _ hd
      walk_at "r"
      refine e_tup g.gh rfl fun t1 G3 H3 e3 ht1 _ => ?_
      walk_at "r"
      refine e_tup (g.trans e3).gh rfl fun t2 G4 H4 e4 ht2 _ => ?_
      walk_at "r"
      refine e_tup ((g.trans e3).trans e4).gh rfl fun t3 G5 H5 e5 ht3 _ => ?_
      have e35 := (e3.trans e4).trans e5
      have g := g.trans e35
      have hd := e35.same _ _ hd
      have hdG := e35.new dd hdG (by rw [show H2 dd = _ from by assumption]; intro z; cases z)
      have hlG := e35.new lv hlG (by rw [hlv]; intro z; cases z)
      have hlv := e35.same _ _ hlv
      have hk := hk.mono fun _ _ => EndV.mono e35.gg
      have hsa : StandAt G5 t3 (start, [], []) := ⟨t1, t2, ht3, (e4.gg.trans e5.gg) _ _ ht1, e5.gg _ _ ht2⟩
      walk_at "r"
      have hdl : dd ≠ lv := fun z => by rw [z, hlv] at hd; cases hd
      have D0 : StandD G5 [(skey (start, [], []), t3, .bl true)] [(start, [], [])] := ⟨rfl, fun en hen => by rw [List.mem_singleton.mp hen]; exact ⟨hsa.nk, skey_depth _⟩, by simp⟩
      refine oneP.mk (hsa.mono g.gh).nk (skey_depth _) hlv fun H6 hlv hr6 => ?_
      have g := g.chg hlG hl0 hr6
      have hd := (hr6 dd hdl).trans hd
      walk_at "r"
      refine ⟨lv, _, rfl, hlv, D0.nk.mono g.gh, Nat.le_refl _, fun kn hkn => ?_⟩
      have hk0 := g.freeN hkn
      have hkG := g.free1 hkn
      have hlk : lv ≠ kn := ne_of_none hlv hkn
      have hdk : dd ≠ kn := ne_of_none hd hkn
      have g := g.newH (o := dN P w kn [(skey (start, [], []), t3, .bl true)]) hkn
      have hlv : upd H6 kn (dN P w kn [(skey (start, [], []), t3, .bl true)]) lv = some (dN P w lv [(skey (start, [], []), t3, .bl true)]) := by rw [upd_ne hlk]; exact hlv
      have hd : upd H6 kn (dN P w kn [(skey (start, [], []), t3, .bl true)]) dd = some (.dK kvs) := by rw [upd_ne hdk]; exact hd
      have hkn : upd H6 kn (dN P w kn [(skey (start, [], []), t3, .bl true)]) kn = some (dN P w kn [(skey (start, [], []), t3, .bl true)]) := upd_same
      revert g hlv hd hkn
      generalize upd H6 kn (dN P w kn [(skey (start, [], []), t3, .bl true)]) = H7
      intro g hlv hd hkn
      walk_at "r"
      have hSu : (start, [], []) ∈ univ posts m.mach.n wn := univ_start hst
      refine r_while (fun M σ H' => ∃ (G' : Hp) (lv : Addr) (lkv kkv : List NEnt) (ls cs : List (Stand Str)) (size : Int) (y9 y10 y11 y12 y13 y14 y15 y16 y17 : Option V), M = 2 * (400 - cs.length) + (if ls = [] then 0 else 1) ∧ Grow no G H G' H' ∧ G' dd = none ∧ G' lv = none ∧ G' kn = none ∧ H lv = none ∧ lv ≠ kn ∧
        H' dd = some (.dK kvs) ∧ Seq2 (EndV G') kvs lanes ∧ H' lv = some (dN P w lv lkv) ∧ StandD G' lkv ls ∧ H' kn = some (dN P w kn kkv) ∧ StandD G' kkv cs ∧ (∀ x ∈ ls, x ∈ cs) ∧ (start, [], []) ∈ cs ∧ (∀ x ∈ cs, x ∈ univ posts m.mach.n wn) ∧
        (∀ x ∈ cs, ∃ R, Reached lanes m.mach [wn] (start, [], []) x R) ∧ (∀ x ∈ cs, x ∉ ls → ¬ goal m.mach ends [wn] x ∧ ∀ en ∈ lanes, ∀ t, step m.mach [wn] x en = some t → t ∈ cs) ∧
        σ = [some (.ref q), some (.str start), some (.ref e), some (.ref wl), some (.ref a), some (.ref dd), some (.ref lv), some (.ref kn), some (.int size), y9, y10, y11, y12, y13, y14, y15, y16, y17])
        _ ⟨G5, lv, _, _, [(start, [], [])], [(start, [], [])], 0, _, _, _, _, _, _, _, _, _, rfl, g, hdG, hlG, hkG, hl0, hlk, hd, hk, hlv, D0, hkn, D0, fun _ h => h, List.mem_singleton.mpr rfl, fun x hx => by rw [List.mem_singleton.mp hx]; exact hSu,
          fun x hx => ⟨[], by rw [List.mem_singleton.mp hx]; exact ⟨by simp, rfl⟩⟩, fun x hx hn => absurd hx hn, rfl⟩ ?_
      clear hk D0 hsa hdG hlG hkG hl0 hlk hd hlv hkn hdl hdk
      rintro M σ H8 ⟨G8, lv, lkv, kkv, ls, cs, size, y9, y10, y11, y12, y13, y14, y15, y16, y17, rfl, g, hdG, hlG, hkG, hl0, hlk, hd, hk, hlv, Dl, hkn, Dk, hsub, hS0, hun, hre, hex, rfl⟩
      have hcs : cs.length ≤ 320 := univ_small Dk.nd hun hp5 hm5
      walk_at "r"
      refine r_newN fun em H9 s9 hem hem0 => ?_
      have g := g.heap s9
      have hd := s9 _ _ hd
      have hlv := s9 _ _ hlv
      have hkn := s9 _ _ hkn
      refine ⟨lv, em, lkv, rfl, rfl, hlv, hem, ?_⟩
      walk_at "r"
      cases hls : lkv with
      | nil =>
        refine r_no rfl ?_
        walk_at "r"
        have h0 : ls = [] := by
          have := Dl.len
          rw [hls] at this
          exact List.length_eq_zero_iff.mp this.symm
        refine k1 (fun ⟨R, h⟩ => no_avoid hS0 (C := cs) (fun x hx en hen t ht => (hex x hx (by rw [h0]; simp)).2 en hen t ht) (fun x hx => (hex x hx (by rw [h0]; simp)).1) h) _ g.same
      | cons en0 lkv0 =>
        have h0 : ls ≠ [] := fun z => by
          have := Dl.len
          rw [hls, z] at this
          cases this
        rw [← hls]
        refine r_yes (by rw [hls]; rfl) ?_
        rw [if_neg h0]
        refine ⟨_, fun _ _ h => h, ?_⟩
        clear hls h0
        have hlsl : ls.length ≤ 320 := Nat.le_trans (len_le_of_sub Dl.nd hsub) hcs
        walk_at "r"
        refine r_newN fun fu HA sa hfu hfu0 => ?_
        have hf0 := g.freeN hfu0
        have hfG := g.free1 hfu0
        have hfl : lv ≠ fu := ne_of_none hlv hfu0
        have hfk : kn ≠ fu := ne_of_none hkn hfu0
        have hfd : dd ≠ fu := ne_of_none hd hfu0
        have hdl : dd ≠ lv := fun z => by rw [z, hlv] at hd; cases hd
        have hdk : dd ≠ kn := fun z => by rw [z, hkn] at hd; cases hd
        have g := g.heap sa
        have hd := sa _ _ hd
        have hlv := sa _ _ hlv
        have hkn := sa _ _ hkn
        walk_at "r"
        refine r_lockS ⟨lv, _, hlv, trivial, fun od => ?_⟩
        have gl := g.mut (o := .frz od (dN P w lv lkv)) hlG (.inl hl0)
        have hdL : upd HA lv (.frz od (dN P w lv lkv)) dd = some (.dK kvs) := by rw [upd_ne hdl]; exact hd
        have hkL : upd HA lv (.frz od (dN P w lv lkv)) kn = some (dN P w kn kkv) := by rw [upd_ne (Ne.symm hlk)]; exact hkn
        have hfL : upd HA lv (.frz od (dN P w lv lkv)) fu = some (dN P w fu []) := by rw [upd_ne (Ne.symm hfl)]; exact hfu
        have hlL : upd HA lv (.frz od (dN P w lv lkv)) lv = some (.frz od (dN P w lv lkv)) := upd_same
        revert gl hdL hkL hfL hlL
        generalize upd HA lv (.frz od (dN P w lv lkv)) = HB
        intro gl hdL hkL hfL hlL
        walk_at "r"
        refine r_iKeysN ?_
        walk_at "r"
        refine ⟨lv, od, lkv, rfl, hlL, Dl.nk.mono gl.gh, ?_⟩
        refine for_it (walk_keysN (P := P) (w := w) (d := lv) (o := od) (kvs := lkv)) (fun i σ H' => ∃ (G' : Hp) (fkv : List NEnt) (fs : List (Stand Str)) (y10 y11 y12 y13 y14 y15 y16 y17 : Option V), Grow no G H G' H' ∧ Same G8 G' ∧ G' dd = none ∧ G' lv = none ∧ G' kn = none ∧ G' fu = none ∧
          H' lv = some (.frz od (dN P w lv lkv)) ∧ H' dd = some (.dK kvs) ∧ H' kn = some (dN P w kn kkv) ∧ H' fu = some (dN P w fu fkv) ∧ StandD G' fkv fs ∧ (∀ x ∈ fs, x ∈ univ posts m.mach.n wn) ∧ (∀ x ∈ fs, ∃ R, Reached lanes m.mach [wn] (start, [], []) x R) ∧
          (∀ x ∈ ls.take i, ¬ goal m.mach ends [wn] x ∧ ∀ en ∈ lanes, ∀ t, step m.mach [wn] x en = some t → t ∈ fs) ∧
          σ = [some (.ref q), some (.str start), some (.ref e), some (.ref wl), some (.ref a), some (.ref dd), some (.ref lv), some (.ref kn), some (.int size), some (.ref fu), y10, y11, y12, y13, y14, y15, y16, y17])
          ⟨G8, [], [], _, _, _, _, _, _, _, _, gl, Same.refl _, hdG, hlG, hkG, hfG, hlL, hdL, hkL, hfL, .nil, by simp, by simp, by simp, rfl⟩ (fun i σ H' _ ⟨G', _, _, _, _, _, _, _, _, _, _, g, s8, _, _, _, _, hl, _⟩ => ⟨hl, (Dl.nk.mono s8).mono g.gh⟩) ?_ ?_
        · clear g gl hdG hlG hkG hd hlv hkn hfu hdL hkL hfL hlL hfG
          rintro i v σ HC' HC hi ⟨G9, fkv, fs, y10, y11, y12, y13, y14, y15, y16, y17, g, s8, hdG, hlG, hkG, hfG, hlL, hdL, hkL, hfL, Df, hfun, hfre, hproc, rfl⟩ ⟨rfl, kk, qk, vk, hkv, rfl⟩
          obtain ⟨st, hst1, rfl, hsa⟩ := (Dl.mono s8).at hkv
          have hstm := List.mem_of_getElem? hst1
          have hsu := hun _ (hsub _ hstm)
          have hsl := univ_places hsu
          have hmn : m.mach.n ≤ 5 := hm5
          obtain ⟨ta, tb, hta, htb, htc⟩ := hsa.ex
          refine r_gtup (g.at hta) rfl ?_
          refine r_gcons ?_
          refine r_name ?_
          refine r_gcons ?_
          refine r_name ?_
          refine r_gcons ?_
          refine r_name ?_
          refine r_gnil ?_
          with_reducible show tSeq _ _ _ _ _
          refine r_seq ?_
          refine r_ifB (decide (st.1 ∈ ends ∧ st.2.2.length = 1)) (H1 := HC) (fun R' hR' => ?_) ?_
          · walk_at "r"
            refine r_inS (ks := ends) (.inl (.inl (.inl (g.at (g.gg _ _ he))))) ?_
            walk_at "r"
            by_cases c1 : st.1 ∈ ends
            · refine r_yes (decide_eq_true c1) ?_
              walk_at "r"
              refine r_lenQT (g.at htc) ?_
              walk_at "r"
              refine r_lenQL (g.at (g.gg _ _ hwl)) ?_
              walk_at "r"
              refine r_eq rfl ?_
              walk_at "r"
              have e : decide (V.int (((st.2.2.map V.str).length : Nat) : Int) = V.int ((([wn].map V.str).length : Nat) : Int)) = decide (st.1 ∈ ends ∧ st.2.2.length = 1) := by
                refine decide_eq_decide.mpr ⟨fun z => ⟨c1, ?_⟩, fun z => ?_⟩
                · have := V.int.inj z
                  rw [List.length_map] at this
                  have h1 : ([wn].map V.str).length = 1 := rfl
                  omega
                · rw [List.length_map, z.2]; rfl
              rw [e]
              exact hR'
            · refine r_no (decide_eq_false c1) ?_
              rw [decide_eq_false fun z => c1 z.1] at hR'
              exact hR'
          by_cases cg : st.1 ∈ ends ∧ st.2.2.length = 1
          · rw [decide_eq_true cg]
            walk_at "r"
            refine ⟨hlL, k2 ?_ _ _ (g.mut (o := dN P w lv lkv) hlG (.inl hl0)).same⟩
            obtain ⟨R, hR⟩ := hre _ (hsub _ hstm)
            exact ⟨R, hR.avoid ⟨cg.1, cg.2, ho⟩⟩
          · rw [decide_eq_false cg]
            have hng : ¬ goal m.mach ends [wn] st := fun z => cg ⟨z.1, z.2.1⟩
            walk_at "r"
            refine r_lockS ⟨dd, _, hdL, trivial, fun od2 => ?_⟩
            have gd := g.mut (o := .frz od2 (.dK kvs)) hdG (.inl hd0)
            have hd2 : upd HC dd (.frz od2 (.dK kvs)) dd = some (.frz od2 (.dK kvs)) := upd_same
            have hk2 : upd HC dd (.frz od2 (.dK kvs)) kn = some (dN P w kn kkv) := by rw [upd_ne (Ne.symm hdk)]; exact hkL
            have hf2 : upd HC dd (.frz od2 (.dK kvs)) fu = some (dN P w fu fkv) := by rw [upd_ne (Ne.symm hfd)]; exact hfL
            have hl2 : upd HC dd (.frz od2 (.dK kvs)) lv = some (.frz od (dN P w lv lkv)) := by rw [upd_ne (Ne.symm hdl)]; exact hlL
            revert gd hd2 hk2 hf2 hl2
            generalize upd HC dd (.frz od2 (.dK kvs)) = HD
            intro gd hd2 hk2 hf2 hl2
            walk_at "r"
            refine r_iKeys ?_
            walk_at "r"
            refine ⟨dd, od2, rfl, .inl ⟨kvs, hd2, ?_⟩⟩
            refine for_it (walk_keys (d := dd) (o := od2) (kvs := kvs)) (fun j σ H' => ∃ (G' : Hp) (fkv : List NEnt) (fs : List (Stand Str)) (y13 y14 y15 y16 y17 : Option V), Grow no G H G' H' ∧ Same G9 G' ∧ G' dd = none ∧ G' lv = none ∧ G' kn = none ∧ G' fu = none ∧
              H' lv = some (.frz od (dN P w lv lkv)) ∧ H' dd = some (.frz od2 (.dK kvs)) ∧ H' kn = some (dN P w kn kkv) ∧ H' fu = some (dN P w fu fkv) ∧ StandD G' fkv fs ∧ (∀ x ∈ fs, x ∈ univ posts m.mach.n wn) ∧ (∀ x ∈ fs, ∃ R, Reached lanes m.mach [wn] (start, [], []) x R) ∧
              (∀ x ∈ ls.take i, ¬ goal m.mach ends [wn] x ∧ ∀ en ∈ lanes, ∀ t, step m.mach [wn] x en = some t → t ∈ fs) ∧ (∀ en ∈ lanes.take j, ∀ t, step m.mach [wn] st en = some t → t ∈ fs) ∧
              σ = [some (.ref q), some (.str start), some (.ref e), some (.ref wl), some (.ref a), some (.ref dd), some (.ref lv), some (.ref kn), some (.int size), some (.ref fu), some (.str st.1), some (.ref ta), some (.ref tb), y13, y14, y15, y16, y17])
              ⟨G9, fkv, fs, _, _, _, _, _, gd, Same.refl _, hdG, hlG, hkG, hfG, hl2, hd2, hk2, hf2, Df, hfun, hfre, hproc, by simp, rfl⟩ (fun i σ H' _ ⟨_, _, _, _, _, _, _, _, _, _, _, _, _, _, _, h, _⟩ => h) ?_ ?_
            · clear g gd hd2 hk2 hf2 hl2 hdG hlG hkG hfG hlL hdL hkL hfL Df hfun hfre hproc
              rintro j v σ HE' HE hj ⟨GE, fkv, fs, y13, y14, y15, y16, y17, g, s9, hdG, hlG, hkG, hfG, hlL, hdL, hkL, hfL, Df, hfun, hfre, hproc, hcur, rfl⟩ ⟨rfl, kk, vv, hkv2, rfl⟩
              have hkE := hk.mono fun _ _ => EndV.mono (s8.trans s9)
              obtain ⟨en, hen, hkk, _⟩ := hkE.at hkv2
              have hkk : kk = nk en.1 := hkk
              subst hkk
              have henm := List.mem_of_getElem? hen
              obtain ⟨tz, htz, htz2⟩ := endv_get hkE hnet.ln.nd henm
              have hta := s9 _ _ hta
              have htb : NatT GE ta st.2.1 := s9 _ _ htb
              have htc : StrT GE tb st.2.2 := s9 _ _ htc
              walk_at "r"
              refine ⟨a, ta, m, st.2.1, en.1, rfl, (hm.mono g.gg).mono g.gh, g.at htb, by omega, by omega, fun q5 HF s5 hq0 hq5 => ?_⟩
              have e5 := ((Grow.refl g.gh (m := no)).heap s5).tell hq5 hq0
              have hq5G : upd GE q5 (.tup ((m.mach.begun st.2.1 en.1).map natV)) q5 = some (.tup ((m.mach.begun st.2.1 en.1).map natV)) := upd_same
              revert e5 hq5G
              generalize upd GE q5 (.tup ((m.mach.begun st.2.1 en.1).map natV)) = GF
              intro e5 hq5G
              have hbl : (m.mach.begun st.2.1 en.1).length ≤ 5 := Nat.le_trans (Mach.begun_len _ _ _) hmn
              have lead : ∀ {G5 : Hp} {H5 : Hp}, Grow no GE HE G5 H5 → Grow no G H G5 H5 ∧ Same G9 G5 ∧ G5 dd = none ∧ G5 lv = none ∧ G5 kn = none ∧ G5 fu = none ∧ H5 lv = some (.frz od (dN P w lv lkv)) ∧ H5 dd = some (.frz od2 (.dK kvs)) ∧ H5 kn = some (dN P w kn kkv) ∧ H5 fu = some (dN P w fu fkv) := fun {G5 H5} e =>
                ⟨g.trans e, s9.trans e.gg, e.new _ hdG (by rw [hdL]; intro z; cases z), e.new _ hlG (by rw [hlL]; intro z; cases z), e.new _ hkG (by rw [hkL]; intro z; cases z), e.new _ hfG (by rw [hfL]; intro z; cases z), e.same _ _ hlL, e.same _ _ hdL, e.same _ _ hkL, e.same _ _ hfL⟩
              have skip : ∀ {G5 H5 : Hp} {y14 y15 y16 y17 : Option V}, Grow no GE HE G5 H5 → step m.mach [wn] st en = none → ∃ (G' : Hp) (fkv : List NEnt) (fs : List (Stand Str)) (y13 y14' y15' y16' y17' : Option V), Grow no G H G' H5 ∧ Same G9 G' ∧ G' dd = none ∧ G' lv = none ∧ G' kn = none ∧ G' fu = none ∧
                  H5 lv = some (.frz od (dN P w lv lkv)) ∧ H5 dd = some (.frz od2 (.dK kvs)) ∧ H5 kn = some (dN P w kn kkv) ∧ H5 fu = some (dN P w fu fkv) ∧ StandD G' fkv fs ∧ (∀ x ∈ fs, x ∈ univ posts m.mach.n wn) ∧ (∀ x ∈ fs, ∃ R, Reached lanes m.mach [wn] (start, [], []) x R) ∧
                  (∀ x ∈ ls.take i, ¬ goal m.mach ends [wn] x ∧ ∀ en ∈ lanes, ∀ t, step m.mach [wn] x en = some t → t ∈ fs) ∧ (∀ en ∈ lanes.take (j + 1), ∀ t, step m.mach [wn] st en = some t → t ∈ fs) ∧
                  [some (.ref q), some (.str start), some (.ref e), some (.ref wl), some (.ref a), some (.ref dd), some (.ref lv), some (.ref kn), some (.int size), some (.ref fu), some (.str st.1), some (.ref ta), some (.ref tb), some (.str en.1), y14, y15, y16, y17] =
                  [some (.ref q), some (.str start), some (.ref e), some (.ref wl), some (.ref a), some (.ref dd), some (.ref lv), some (.ref kn), some (.int size), some (.ref fu), some (.str st.1), some (.ref ta), some (.ref tb), y13, y14', y15', y16', y17'] := fun {G5 H5 y14 y15 y16 y17} e hn => by
                obtain ⟨l1, l2, l3, l4, l5, l6, l7, l8, l9, l10⟩ := lead e
                refine ⟨G5, fkv, fs, _, _, _, _, _, l1, l2, l3, l4, l5, l6, l7, l8, l9, l10, Df.mono e.gg, hfun, hfre, hproc, ?_, rfl⟩
                intro x hx t ht
                rw [take_snoc hen] at hx
                rcases List.mem_append.mp hx with hx | hx
                · exact hcur x hx t ht
                · rw [List.mem_singleton.mp hx, hn] at ht
                  cases ht
              obtain ⟨l1, l2, l3, l4, l5, l6, l7, l8, l9, l10⟩ := lead e5
              walk_at "r"
              refine ⟨dd, _, rfl, by rw [← htz]; exact DGet.frz (k := nk en.1) l8, ?_⟩
              walk_at "r"
              refine r_ixT (j := 0) (l1.at (e5.gg _ _ htz2)) rfl ?_
              walk_at "r"
              refine r_eq rfl ?_
              walk_at "r"
              by_cases c1 : en.2.1 = st.1
              · refine r_yes (decide_eq_true (by rw [c1])) ?_
                walk_at "r"
                refine ⟨a, q5, m, _, rfl, (hm.mono l1.gg).mono l1.gh, l1.at hq5G, by omega, fun HG s6 => ?_⟩
                have e6 := e5.heap s6
                obtain ⟨l1, l2, l3, l4, l5, l6, l7, l8, l9, l10⟩ := lead e6
                walk_at "r"
                by_cases c2 : m.mach.done (m.mach.begun st.2.1 en.1) = true
                · refine r_no' c2 ?_
                  walk_at "r"
                  exact skip e6 (by unfold step; rw [if_neg (fun z => by rw [c2] at z; cases z.2)])
                · have c2 := eq_false_of_ne_true c2
                  have hstep : step m.mach [wn] st en = some (en.2.2, m.mach.begun st.2.1 en.1, more [wn] st.2.2 en.1) := by unfold step; rw [if_pos ⟨c1, c2⟩]
                  refine r_yes' c2 ?_
                  walk_at "r"
                  refine ⟨wl, rfl, ⟨_, .inl (.inl (l1.at (l1.gg _ _ hwl)))⟩, fun Dl2 hD => ?_⟩
                  have hD0 := hD
                  let ff : Str → Bool := fun o => decide (o ∈ st.2.2) || decide (o = en.1)
                  refine lc_it (walk_list (xs := [wn].map V.str)) (fun i H' => Same HG H' ∧ StrL H' Dl2 (([wn].take i).filter ff)) ⟨same_upd hD, upd_same⟩ (fun _ _ _ h => .inl (.inl (h.1 _ _ (l1.at (l1.gg _ _ hwl))))) ?_ ?_
                  · rintro i2 v H6' H6 hi2 ⟨s7, hDl⟩ ⟨rfl, hx⟩
                    rw [List.getElem?_map] at hx
                    obtain ⟨z, hz, rfl⟩ := Option.map_eq_some_iff.mp hx
                    have hlen2 : (([wn].take i2).filter ff).length ≤ 1 := Nat.le_trans (List.length_filter_le _ _) (by rw [List.length_take]; exact Nat.min_le_right _ _)
                    have yes : ff z = true → ∃ acc, H6 Dl2 = some (.lst acc) ∧ acc.length < sizeLine ∧ Same HG (upd H6 Dl2 (.lst (acc ++ [V.str z]))) ∧ StrL (upd H6 Dl2 (.lst (acc ++ [V.str z]))) Dl2 (([wn].take (i2 + 1)).filter ff) := fun hf => by
                      refine ⟨_, hDl, by rw [List.length_map]; exact small_lt (by omega), s7.upd_mut hD, ?_⟩
                      show upd _ _ _ _ = _
                      rw [upd_same, take_snoc hz, List.filter_append, List.filter_cons_of_pos hf, List.filter_nil, List.map_append]
                      rfl
                    walk_at "r"
                    refine ⟨rfl, ?_⟩
                    walk_at "r"
                    refine r_inS (ks := st.2.2) (.inr (.inl (.inl (s7 _ _ (l1.at (e6.gg _ _ htc)))))) ?_
                    walk_at "r"
                    by_cases c3 : z ∈ st.2.2
                    · refine r_yes (decide_eq_true c3) ?_
                      walk_at "r"
                      exact yes (by show (decide (z ∈ st.2.2) || _) = true; rw [decide_eq_true c3]; rfl)
                    · refine r_no (decide_eq_false c3) ?_
                      walk_at "r"
                      refine r_eq rfl ?_
                      walk_at "r"
                      by_cases c4 : z = en.1
                      · refine r_yes (decide_eq_true (by rw [c4]; rfl)) ?_
                        walk_at "r"
                        exact yes (by show (_ || decide (z = en.1)) = true; rw [decide_eq_true c4, Bool.or_true])
                      · refine r_no (decide_eq_false fun q => c4 (V.str.inj q)) ?_
                        refine ⟨s7, ?_⟩
                        rw [take_snoc hz, List.filter_append, List.filter_cons_of_neg (by show ¬ (decide (z ∈ st.2.2) || decide (z = en.1)) = true; rw [decide_eq_false c3, decide_eq_false c4]; decide), List.filter_nil, List.append_nil]
                        exact hDl
                  · rintro H6 ⟨s7, hDl⟩
                    have hDl : StrL H6 Dl2 (more [wn] st.2.2 en.1) := hDl
                    have e7 := e6.heap s7
                    walk_at "r"
                    refine e_tupQ e7.gh hDl fun t6 G7 H7 e8 ht6 _ => ?_
                    have e9 := e7.trans e8
                    obtain ⟨l1, l2, l3, l4, l5, l6, l7, l8, l9, l10⟩ := lead e9
                    walk_at "r"
                    refine ⟨dd, _, rfl, by rw [← htz]; exact DGet.frz (k := nk en.1) l8, ?_⟩
                    walk_at "r"
                    refine r_ixT (j := 1) (l1.at (e9.gg _ _ htz2)) rfl ?_
                    walk_at "r"
                    refine e_tup l1.gh rfl fun t7 G8' H8' e10 ht7 _ => ?_
                    have e11 := e9.trans e10
                    obtain ⟨l1, l2, l3, l4, l5, l6, l7, l8, l9, l10⟩ := lead e11
                    have hsat : StandAt G8' t7 (en.2.2, m.mach.begun st.2.1 en.1, more [wn] st.2.2 en.1) := ⟨q5, t6, ht7, (e8.gg.trans e10.gg) _ _ hq5G, e10.gg _ _ ht6⟩
                    have Df2 := Df.mono e11.gg
                    have hfl2 : fs.length ≤ 320 := univ_small Df.nd hfun hp5 hm5
                    have hpm := (hnet.ends en henm).2
                    refine ⟨fu, upd H8' fu (dN P w fu (putN fkv (skey (en.2.2, m.mach.begun st.2.1 en.1, more [wn] st.2.2 en.1)) t7 (.bl true))), rfl, ⟨fkv, _, t7, l10, Df2.nk.mono l1.gh, rfl, (hsat.mono l1.gh).nk, skey_depth _, by rw [Df2.len]; exact small_lt (by omega), rfl⟩, ?_⟩
                    have g2 := l1.mut (o := dN P w fu (putN fkv (skey (en.2.2, m.mach.begun st.2.1 en.1, more [wn] st.2.2 en.1)) t7 (.bl true))) l6 (.inl hf0)
                    have inc : ∀ x, x ∈ fs → x ∈ (if (en.2.2, m.mach.begun st.2.1 en.1, more [wn] st.2.2 en.1) ∈ fs then fs else fs ++ [(en.2.2, m.mach.begun st.2.1 en.1, more [wn] st.2.2 en.1)]) := fun x hx => by
                      split
                      · exact hx
                      · exact List.mem_append_left _ hx
                    have hin : (en.2.2, m.mach.begun st.2.1 en.1, more [wn] st.2.2 en.1) ∈ (if (en.2.2, m.mach.begun st.2.1 en.1, more [wn] st.2.2 en.1) ∈ fs then fs else fs ++ [(en.2.2, m.mach.begun st.2.1 en.1, more [wn] st.2.2 en.1)]) := by
                      split
                      · assumption
                      · exact List.mem_append_right _ (List.mem_singleton.mpr rfl)
                    have either : ∀ x, x ∈ (if (en.2.2, m.mach.begun st.2.1 en.1, more [wn] st.2.2 en.1) ∈ fs then fs else fs ++ [(en.2.2, m.mach.begun st.2.1 en.1, more [wn] st.2.2 en.1)]) → x ∈ fs ∨ x = (en.2.2, m.mach.begun st.2.1 en.1, more [wn] st.2.2 en.1) := fun x hx => by
                      split at hx
                      · exact .inl hx
                      · exact (List.mem_append.mp hx).imp id List.mem_singleton.mp
                    refine ⟨G8', _, _, _, _, _, _, _, g2, l2, l3, l4, l5, l6, by rw [upd_ne hfl]; exact l7, by rw [upd_ne hfd]; exact l8, by rw [upd_ne hfk]; exact l9, upd_same, Df2.add hsat, ?_, ?_, ?_, ?_, rfl⟩
                    · intro x hx
                      rcases either x hx with h | h
                      · exact hfun x h
                      · rw [h]; exact univ_step hpm hstep
                    · intro x hx
                      rcases either x hx with h | h
                      · exact hfre x h
                      · obtain ⟨R, hR⟩ := hre _ (hsub _ hstm)
                        rw [h]
                        exact ⟨_, hR.snoc henm hstep⟩
                    · exact fun x hx => ⟨(hproc x hx).1, fun en' hen' t ht => inc _ ((hproc x hx).2 en' hen' t ht)⟩
                    · intro x hx t ht
                      rw [take_snoc hen] at hx
                      rcases List.mem_append.mp hx with hx | hx
                      · exact inc _ (hcur x hx t ht)
                      · rw [List.mem_singleton.mp hx, hstep] at ht
                        rw [← Option.some.inj ht]
                        exact hin
              · refine r_no (decide_eq_false fun q => c1 (V.str.inj q)) ?_
                walk_at "r"
                exact skip e5 (by unfold step; rw [if_neg (fun z => c1 z.1)])
            · rintro σ HE ⟨GE, fkv, fs, y13, y14, y15, y16, y17, g, s9, hdG, hlG, hkG, hfG, hlL, hdL, hkL, hfL, Df, hfun, hfre, hproc, hcur, rfl⟩
              rw [List.take_of_length_le (by rw [hk.1]; exact Nat.le_refl _)] at hcur
              have g := g.mut (o := .dK kvs) hdG (.inl hd0)
              refine ⟨hdL, GE, fkv, fs, _, _, _, _, _, _, _, _, g, s8.trans s9, hdG, hlG, hkG, hfG, by rw [upd_ne (Ne.symm hdl)]; exact hlL, upd_same, by rw [upd_ne (Ne.symm hdk)]; exact hkL, by rw [upd_ne (Ne.symm hfd)]; exact hfL, Df, hfun, hfre, ?_, rfl⟩
              intro x hx
              rw [take_snoc hst1] at hx
              rcases List.mem_append.mp hx with hx | hx
              · exact hproc x hx
              · rw [List.mem_singleton.mp hx]; exact ⟨hng, hcur⟩
        · clear g gl hdG hlG hkG hd hlv hkn hfu hdL hkL hfL hlL hfG
          rintro σ HC ⟨G9, fkv, fs, y10, y11, y12, y13, y14, y15, y16, y17, g, s8, hdG, hlG, hkG, hfG, hlL, hdL, hkL, hfL, Df, hfun, hfre, hproc, rfl⟩
          rw [List.take_of_length_le (by rw [Dl.len]; exact Nat.le_refl _)] at hproc
          have g := g.mut (o := dN P w lv lkv) hlG (.inl hl0)
          have hdL : upd HC lv (dN P w lv lkv) dd = some (.dK kvs) := by rw [upd_ne hdl]; exact hdL
          have hkL : upd HC lv (dN P w lv lkv) kn = some (dN P w kn kkv) := by rw [upd_ne (Ne.symm hlk)]; exact hkL
          have hfL : upd HC lv (dN P w lv lkv) fu = some (dN P w fu fkv) := by rw [upd_ne (Ne.symm hfl)]; exact hfL
          refine ⟨hlL, ?_⟩
          revert g hdL hkL hfL
          generalize upd HC lv (dN P w lv lkv) = HD
          intro g hdL hkL hfL
          have hfl2 : fs.length ≤ 320 := univ_small Df.nd hfun hp5 hm5
          walk_at "r"
          refine r_newN fun l2 HE se hl2 hl20 => ?_
          have hl2H := g.freeN hl20
          have hl2G := g.free1 hl20
          have hl2k : kn ≠ l2 := ne_of_none hkL hl20
          have hl2f : fu ≠ l2 := ne_of_none hfL hl20
          have hl2d : dd ≠ l2 := ne_of_none hdL hl20
          have g := g.heap se
          have hdL := se _ _ hdL
          have hkL := se _ _ hkL
          have hfL := se _ _ hfL
          walk_at "r"
          refine r_lockS ⟨fu, _, hfL, trivial, fun od => ?_⟩
          have g := g.mut (o := .frz od (dN P w fu fkv)) hfG (.inl hf0)
          have hdL : upd HE fu (.frz od (dN P w fu fkv)) dd = some (.dK kvs) := by rw [upd_ne hfd]; exact hdL
          have hkL : upd HE fu (.frz od (dN P w fu fkv)) kn = some (dN P w kn kkv) := by rw [upd_ne hfk]; exact hkL
          have hl2 : upd HE fu (.frz od (dN P w fu fkv)) l2 = some (dN P w l2 []) := by rw [upd_ne (Ne.symm hl2f)]; exact hl2
          have hfL : upd HE fu (.frz od (dN P w fu fkv)) fu = some (.frz od (dN P w fu fkv)) := upd_same
          revert g hdL hkL hfL hl2
          generalize upd HE fu (.frz od (dN P w fu fkv)) = HF
          intro g hdL hkL hl2 hfL
          walk_at "r"
          refine r_iKeysN ?_
          walk_at "r"
          refine ⟨fu, od, fkv, rfl, hfL, Df.nk.mono g.gh, ?_⟩
          let nf : Stand Str → Bool := fun x => !decide (x ∈ cs)
          refine for_it (walk_keysN (P := P) (w := w) (d := fu) (o := od) (kvs := fkv)) (fun i σ H' => ∃ (lkv2 kkv2 : List NEnt) (y17 : Option V), Grow no G H G9 H' ∧ H' fu = some (.frz od (dN P w fu fkv)) ∧ H' dd = some (.dK kvs) ∧ H' kn = some (dN P w kn kkv2) ∧ H' l2 = some (dN P w l2 lkv2) ∧
            StandD G9 lkv2 ((fs.take i).filter nf) ∧ StandD G9 kkv2 (cs ++ (fs.take i).filter nf) ∧
            σ = [some (.ref q), some (.str start), some (.ref e), some (.ref wl), some (.ref a), some (.ref dd), some (.ref l2), some (.ref kn), some (.int size), some (.ref fu), y10, y11, y12, y13, y14, y15, y16, y17])
            ⟨[], kkv, _, g, hfL, hdL, hkL, hl2, .nil, by rw [show (fs.take 0).filter nf = [] from rfl, List.append_nil]; exact Dk.mono s8, rfl⟩ (fun i σ H' _ ⟨_, _, _, g, h, _⟩ => ⟨h, Df.nk.mono g.gh⟩) ?_ ?_
          · clear g hdL hkL hfL hl2
            rintro i v σ H5' H5 hi ⟨lkv2, kkv2, y17, g, hfL, hdL, hkL, hl2, Dl2, Dk2, rfl⟩ ⟨rfl, kk, qk, vk, hkv, rfl⟩
            obtain ⟨st, hst1, rfl, hsa⟩ := Df.at hkv
            have hstm := List.mem_of_getElem? hst1
            have hnot : st ∉ (fs.take i).filter nf := fun hm => by
              have hnd := Df.nd
              rw [← List.take_append_drop i fs, List.nodup_append] at hnd
              refine hnd.2.2 st (List.mem_filter.mp hm).1 st ?_ rfl
              have hil := List.getElem?_eq_some_iff.mp hst1
              rw [List.drop_eq_getElem_cons hil.1, hil.2]
              exact List.mem_cons_self
            have hlen1 : ((fs.take i).filter nf).length ≤ 320 := Nat.le_trans (List.length_filter_le _ _) (by rw [List.length_take]; omega)
            walk_at "r"
            refine ⟨kn, _, rfl, ⟨kkv2, skey st, qk, .of hkL, Dk2.nk.mono g.gh, rfl, (hsa.mono g.gh).nk, skey_depth _, rfl⟩, ?_⟩
            walk_at "r"
            rw [Dk2.isSome]
            by_cases c : st ∈ cs
            · refine r_no (by rw [decide_eq_true (List.mem_append_left _ c)]; rfl) ?_
              walk_at "r"
              refine ⟨lkv2, kkv2, _, g, hfL, hdL, hkL, hl2, ?_, ?_, rfl⟩
              · rw [take_snoc hst1, List.filter_append, List.filter_cons_of_neg (by show ¬ (!decide (st ∈ cs)) = true; rw [decide_eq_true c]; decide), List.filter_nil, List.append_nil]
                exact Dl2
              · rw [take_snoc hst1, List.filter_append, List.filter_cons_of_neg (by show ¬ (!decide (st ∈ cs)) = true; rw [decide_eq_true c]; decide), List.filter_nil, List.append_nil]
                exact Dk2
            · have cn : st ∉ cs ++ (fs.take i).filter nf := fun z => (List.mem_append.mp z).elim c hnot
              refine r_yes (by rw [decide_eq_false cn]; rfl) ?_
              have pk := Dk2.put (v := .bl true) cn hsa
              have pl := Dl2.put (v := .bl true) hnot hsa
              walk_at "r"
              refine ⟨kn, upd H5 kn (dN P w kn (putN kkv2 (skey st) qk (.bl true))), rfl, ⟨kkv2, _, qk, hkL, Dk2.nk.mono g.gh, rfl, (hsa.mono g.gh).nk, skey_depth _, by rw [Dk2.len, List.length_append]; exact small_lt (by omega), rfl⟩, ?_⟩
              have g := g.mut (o := dN P w kn (putN kkv2 (skey st) qk (.bl true))) hkG (.inl hk0)
              have hl2' : upd H5 kn (dN P w kn (putN kkv2 (skey st) qk (.bl true))) l2 = some (dN P w l2 lkv2) := by rw [upd_ne (Ne.symm hl2k)]; exact hl2
              walk_at "r"
              refine ⟨l2, upd (upd H5 kn (dN P w kn (putN kkv2 (skey st) qk (.bl true)))) l2 (dN P w l2 (putN lkv2 (skey st) qk (.bl true))), rfl, ⟨lkv2, _, qk, hl2', Dl2.nk.mono g.gh, rfl, (hsa.mono g.gh).nk, skey_depth _, by rw [Dl2.len]; exact small_lt (by omega), rfl⟩, ?_⟩
              have g := g.mut (o := dN P w l2 (putN lkv2 (skey st) qk (.bl true))) hl2G (.inl hl2H)
              have etk : (fs.take (i + 1)).filter nf = (fs.take i).filter nf ++ [st] := by
                rw [take_snoc hst1, List.filter_append, List.filter_cons_of_pos (by show (!decide (st ∈ cs)) = true; rw [decide_eq_false c]; rfl), List.filter_nil]
              refine ⟨_, _, _, g, by rw [upd_ne hl2f, upd_ne (Ne.symm hfk)]; exact hfL, by rw [upd_ne hl2d, upd_ne hdk]; exact hdL, by rw [upd_ne hl2k, upd_same], upd_same, ?_, ?_, rfl⟩
              · rw [etk]; exact pl.1
              · rw [etk, ← List.append_assoc]; exact pk.1
          · clear g hdL hkL hfL hl2
            rintro σ H5 ⟨lkv2, kkv2, y17, g, hfL, hdL, hkL, hl2, Dl2, Dk2, rfl⟩
            rw [List.take_of_length_le (by rw [Df.len]; exact Nat.le_refl _)] at Dl2 Dk2
            refine ⟨hfL, ?_⟩
            have g := g.mut (o := dN P w fu fkv) hfG (.inl hf0)
            have hkL : upd H5 fu (dN P w fu fkv) kn = some (dN P w kn kkv2) := by rw [upd_ne hfk]; exact hkL
            have hdL : upd H5 fu (dN P w fu fkv) dd = some (.dK kvs) := by rw [upd_ne hfd]; exact hdL
            have hl2 : upd H5 fu (dN P w fu fkv) l2 = some (dN P w l2 lkv2) := by rw [upd_ne (Ne.symm hl2f)]; exact hl2
            have inN : ∀ t, t ∈ fs → t ∈ cs ++ fs.filter nf := fun t ht => by
              by_cases c : t ∈ cs
              · exact List.mem_append_left _ c
              · exact List.mem_append_right _ (List.mem_filter.mpr ⟨ht, by show (!decide (t ∈ cs)) = true; rw [decide_eq_false c]; rfl⟩)
            walk_at "r"
            refine ⟨2 * (400 - (cs ++ fs.filter nf).length) + (if fs.filter nf = [] then 0 else 1), ?_, G9, l2, lkv2, kkv2, fs.filter nf, cs ++ fs.filter nf, size + 1, _, _, _, _, _, _, _, _, _, rfl, g, hdG, hl2G, hkG, hl2H, Ne.symm hl2k, hdL, hk.mono (fun _ _ => EndV.mono s8), hl2, Dl2, hkL, Dk2, fun x hx => List.mem_append_right _ hx, List.mem_append_left _ hS0, ?_, ?_, ?_, rfl⟩
            · rw [List.length_append]
              by_cases c : fs.filter nf = []
              · rw [if_pos c, c]
                simp
              · rw [if_neg c]
                have : 0 < (fs.filter nf).length := List.length_pos_iff.mpr c
                omega
            · intro x hx
              rcases List.mem_append.mp hx with h | h
              · exact hun x h
              · exact hfun x (List.mem_filter.mp h).1
            · intro x hx
              rcases List.mem_append.mp hx with h | h
              · exact hre x h
              · exact hfre x (List.mem_filter.mp h).1
            · intro x hx hn
              have hxc : x ∈ cs := (List.mem_append.mp hx).resolve_right hn
              by_cases c : x ∈ ls
              · exact ⟨(hproc x c).1, fun en hen t ht => inN t ((hproc x c).2 en hen t ht)⟩
              · exact ⟨(hex x hxc c).1, fun en hen t ht => List.mem_append_left _ ((hex x hxc c).2 en hen t ht)⟩
end
end K48
/-! ## KX2 -/
set_option maxHeartbeats 1000000
namespace K48
open PySem L2
/-! ### calls by other roads: getters, own operators, star defs, C(), t[::-1] -/
/-- a property of the class at C -/
structure Prp (P : Program) (w : World) (K : PySem.W.Frag) (mg : Str → Option Value) (base : Heap) (k : Nat) (C : Addr) (n : Str) (sp : Sp) : Prop where
  ex : ∃ (p f : Addr) (fd : FuncData) (ps : List Str), Cls K C ∧ PropOf K C n p f ∧ FnOk P w K mg base C8.CX0 k f fd ps sp ∧ Binds K fd ps []
/-- a special method of the class at C, a def -/
structure Spc (P : Program) (w : World) (K : PySem.W.Frag) (mg : Str → Option Value) (base : Heap) (k : Nat) (C : Addr) (n : Str) (sp : Sp) : Prop where
  ex : ∃ (f : Addr) (fd : FuncData) (ps : List Str), Cls K C ∧ PySem.W.selfFirst K C = true ∧ PySem.W.findIn K (.ref C) n = some (some (.ref f)) ∧ PySem.W.isFn K (.ref f) = true ∧ FnOk P w K mg base C8.CX0 k f fd ps sp ∧ Binds K fd ps []
/-- a def with *args, by its name -/
structure Str1 (P : Program) (w : World) (K : PySem.W.Frag) (mg : Str → Option Value) (base : Heap) (k : Nat) (x : Str) (sp : Sp) : Prop where
  ex : ∃ f : Addr, FnR P w K mg base C8.CX0 k f sp ∧ mg x = some (.ref f) ∧ PySem.W.keepIn K (.ref f) = true
section
variable {X : Cx} {k j : Nat} {C : Addr} {n x : Str} {sp : Sp} {dvs : List V} {e : Expr} {es : List Expr} {p pos : Pos} {ta te : TE} {t : TA}
theorem pe_pr (c : Prp X.prog X.w X.K X.mg X.base k C n sp) (hr : Room j X.A) (hk : k + 1 ≤ j) (he : PE X e ta) (hab : attributeBase e n X.env (eval e X.env) = eval e X.env := by rfl) : PE X (.Attribute e n pos) (tProp C sp [] C8.E0 ta) := by
  obtain ⟨p, f, fd, ps, hc, hp, F, b⟩ := c.ex
  exact pe_prop he hc hp F (hr.mono hk) b .nil C8.pass0 hab
theorem inst_of {pins : List (Addr × Obj)} {σ : L2.St} {H : Hp} {s : Shared} {a dx : Addr} {fs : List (Str × V)} (I : Inv X pins σ H s) (ha : H a = some (.ins C dx fs)) : ∃ ox od, PySem.W.InstAt s.heap a ox C od := by
  obtain ⟨mA, O, _⟩ := ins_get I.hok ha
  obtain ⟨od, J, _⟩ := O.look
  exact ⟨_, _, J⟩
/-- -x, by the class's own method -/
def rOwn1 (C : Addr) (sp : Sp) : V → Hp → VK → Prop := fun x H Q => ∃ a dx fs, x = .ref a ∧ H a = some (.ins C dx fs) ∧ sp [.ref a] H Q C8.E0
theorem un_own (c : Spc X.prog X.w X.K X.mg X.base k C "__neg__" sp) (hr : Room j X.A) (hk : k ≤ j) : UnR X (unaryOp .USub) (rOwn1 C sp) := by
  intro pins s σ H x v Q I r h
  obtain ⟨a, dx, fs, ex, ha, q⟩ := h
  subst ex
  obtain rfl : v = Value.ref a := r
  obtain ⟨f, fd, ps, hc, _, h1, h2, F, b⟩ := c.ex
  obtain ⟨ox, od, J⟩ := inst_of I ha
  unfold unaryOp
  refine wpAny_holding (wpAny_bind (PySem.W.special_fn I.kIn J h1 (beq_iff_eq.mp h2) ?_))
  exact wpAny_mono (run_fn (vs := [.ref a]) F (hr.mono hk) b .nil C8.pass0 I (.cons rfl .nil) q) (fun _ _ z => wpAny_pure z) fun _ _ z => z
/-- x op y, two of the class -/
def rOwn2 (C : Addr) (sp : Sp) : R2 := fun x y H Q => ∃ a b dx fs dy gs, x = .ref a ∧ y = .ref b ∧ H a = some (.ins C dx fs) ∧ H b = some (.ins C dy gs) ∧ sp [.ref a, .ref b] H Q C8.E0
theorem relV_back {v : V} {u : Value} {Q : Value → Shared → Prop} {s : Shared} (r : RelV v u) (q : Q u s) : PySem.W.CmpBack Q u s := by
  cases v with
  | non => cases (show u = Value.none from r); exact q
  | bl b => cases (show u = Value.bool b from r); exact q
  | int i => obtain ⟨t, e⟩ := (show ∃ t, u = Value.int i t from r); subst e; exact q
  | str z => obtain ⟨t, e⟩ := (show ∃ t, u = Value.str z t from r); subst e; exact q
  | byt z => obtain ⟨t, e⟩ := (show ∃ t, u = Value.bytes z t from r); subst e; exact q
  | flt z => obtain ⟨t, e⟩ := (show ∃ t, u = Value.float z t from r); subst e; exact q
  | ref a => cases (show u = Value.ref a from r); exact q
  | ty m => cases (show u = Value.type m from r); exact q
theorem op_own {op : Operator} (c : Spc X.prog X.w X.K X.mg X.base k C (PySem.dunder op.info.2) sp) (hr : Room j X.A) (hk : k ≤ j) : OpR X (binaryOp op) (rOwn2 C sp) := by
  intro pins s σ H x y u v Q I rx ry h
  obtain ⟨a, b, dx, fs, dy, gs, ex, ey, ha, hb, q⟩ := h
  subst ex ey
  obtain rfl : u = Value.ref a := rx
  obtain rfl : v = Value.ref b := ry
  obtain ⟨f, fd, ps, hc, hs, h1, h2, F, bd⟩ := c.ex
  obtain ⟨ox, od, J⟩ := inst_of I ha
  obtain ⟨oy, oe, L⟩ := inst_of I hb
  have KX := I.kIn
  obtain ⟨cd, hcd, hm⟩ := PySem.W.any_some hs
  have mro : ∃ rest, cd.mro = .ref C :: rest := by
    cases e : cd.mro with
    | nil => rw [e] at hm; cases hm
    | cons z r => rw [e, List.head?_cons] at hm; cases (beq_iff_eq.mp hm); exact ⟨r, rfl⟩
  obtain ⟨rest, hm⟩ := mro
  have run := run_fn (vs := [.ref a, .ref b]) (us := [.ref a, .ref b]) F (hr.mono hk) bd .nil C8.pass0 I (.cons rfl (.cons rfl .nil)) q
  unfold binaryOp
  refine wpAny_holding (wpAny_bind ?_)
  unfold binaryOp1
  refine wpAny_bind (J.type.here <| wpAny_bind <| L.type.here <| wpAny_bind <| (PySem.W.fills_K KX hcd hm h1).here ?_)
  simp only [beq_self_eq_true, if_true]
  refine wpAny_bind <| wpAny_pure ?_
  simp only [Bool.and_false, Bool.false_eq_true, if_false, Bool.false_and]
  refine wpAny_bind <| wpAny_pure ?_
  simp only [Bool.false_eq_true, if_false]
  refine wpAny_bind (m := tryMethod (.ref a) _ (.ref b)) ?_
  unfold tryMethod
  refine wpAny_bind (PySem.W.special_fn KX J h1 (beq_iff_eq.mp h2) (wpAny_mono run (fun z s' hz => ?_) fun _ _ e => e))
  obtain ⟨vz, Hz, Iz, rz, qz⟩ := hz
  have hb2 := relV_back (Q := EP X pins σ Q) rz ⟨vz, Hz, Iz, rz, qz⟩
  cases z <;> first | exact hb2.elim | exact wpAny_pure (wpAny_pure (wpAny_pure hb2))
/-- f(..), f a def with *args -/
theorem pe_starcall (c : Str1 X.prog X.w X.K X.mg X.base k x sp) (hr : Room j X.A) (hk : k ≤ j) (hg : Gl X x) (ha : PA X (e :: es) t) (hdb : (x == ("__debug__" : Str)) = false := by decide)
    (he : starEach (e :: es) X.env = (false, eval e X.env) :: starEach es X.env := by rfl) (hpl : (backTo pos (starEach es X.env)).any (·.1) = false := by rfl) : PE X (.Call (.Name x p) (e :: es) [] pos) (tCall sp [] C8.E0 t) := by
  obtain ⟨f, F, hm, kp⟩ := c.ex
  refine ⟨fun pins s σ H Q I h => ?_⟩
  refine wpAny_Call_Name_kw (ld_glob I hg hm ?_ hdb)
  refine PySem.W.callWith_K (h₀ := X.base) I.ok.mod.kin kp (thn (ha.run pos pins s σ H _ I h) fun us s1 ⟨vs, H1, I1, r, q⟩ => ⟨I1.kIn, ?_⟩) he hpl
  exact wpAny_call (run_fnR F (hr.mono hk) C8.pass0 I1 r (by have q2 : sp (vs ++ []) H1 Q C8.E0 := q; rw [List.append_nil] at q2; exact q2))
theorem pe_starcall0 (c : Str1 X.prog X.w X.K X.mg X.base k x sp) (hr : Room j X.A) (hk : k ≤ j) (hg : Gl X x) (hdb : (x == ("__debug__" : Str)) = false := by decide) : PE X (.Call (.Name x p) [] [] pos) (tCall sp [] C8.E0 tNil) := by
  obtain ⟨f, F, hm, kp⟩ := c.ex
  refine ⟨fun pins s σ H Q I h => ?_⟩
  refine wpAny_Call_Name_kw (ld_glob I hg hm ?_ hdb)
  exact PySem.W.callWith_K0 I.kIn kp (wpAny_call (run_fnR (us := []) F (hr.mono hk) C8.pass0 I .nil h))
/-- C(), the defaults dvs -/
theorem pe_mk0 (c : C8.Mak X.prog X.w X.K X.mg X.base k x C sp dvs) (hr : Room j X.A) (hk : k + 1 ≤ j) (hg : Gl X x) (hdb : (x == ("__debug__" : Str)) = false := by decide) : PE X (.Call (.Name x p) [] [] pos) (tMake C sp dvs C8.E0 tNil) := by
  obtain ⟨f, fd, ps, ds, M, F, hm, b, d⟩ := c.ex
  exact pe_make0 M F (hr.mono hk) hg hm b d C8.pass0 hdb
end
end K48
/-! ## KX3 -/
set_option maxHeartbeats 1000000
namespace K48
open PySem PySem.Spec PyProof.Rows L2
/-! ### {k: v for ..} with keys that are tuples: the library's rule for ints and texts, turned to tables of tuples (DPut) -/
theorem dict_setT {X : Cx} {pins : List (Addr × Obj)} {σ : L2.St} {H : Hp} {s : Shared} {E : Value → Shared → Prop} {D b : Addr} {kvs : List (List Key × V)} {k : List Key} {v : V} {u r : Value} {Q : Unit → Shared → Prop} (hu : X.A.units + 1 < cLine) (I : Inv X pins σ H s) (hD : H D = some (.dT kvs)) (hb : H b = some (.tup (k.map kV))) (hz : kvs.length < sizeLine)
    (ry : RelV (.ref b) u) (rv : RelV v r) (h : ∀ s', Inv X pins σ (upd H D (.dT (putK kvs k v))) s' → Q () s') : wpAny (model X.prog X.w) X.A (dictSet D u r) Q E s := by
  cases (show u = Value.ref b from ry)
  obtain ⟨z, hd, xs, rel, dd⟩ := dt_of I.hok hD
  have l1 : xs.length ≤ sizeLine := by rw [← Paired.length rel]; exact z
  have l2 : (putK kvs k v).length ≤ sizeLine := by have := length_putK kvs k v; omega
  refine wpAny_dictSet_heap (hsz := l1) (show X.A.units < cLine by omega) (key_of I.hok hb) dd fun h' d' hs => h _ ?_
  obtain ⟨o, es, ep, g1, g2, g3, g4, _, g5⟩ := d'
  refine d_write I (by rw [hD]; exact True.intro) hs ⟨o, g1⟩ ⟨l2, hd, _, (rel.put k hb rv).keeps fun c ys ec => ?_, o, es, ep, g1, g2, g3, g4, g5⟩
  rw [upd_ne (ne_of ec hD (fun z => nomatch z))]
  exact ec
section
variable {X : Cx}
def tDcT (wi : TI) (g : TG) (tt : TT) (tk tv : TE) (vs : List Nat) : TE := fun σ H Q => wi σ H fun J H1 => ∀ D, H1 D = none → ∃ W : Nat → Nat → Hp → Prop, (∃ m, W 0 m (upd H1 D (.dT []))) ∧ ∀ i m H, W i m H →
  (J.stop i H ∧ Q (.ref D) H) ∨ (J.go i H ∧ ∃ Nx : Hp → Prop, (∀ H', Nx H' → ∃ m', m' < m ∧ W (i + 1) m' H') ∧ ∀ x H', J.yld i H x H' → g x (wipe σ vs) H' fun σ2 H2 => wipe σ2 vs = wipe σ vs ∧ tt σ2 H2 fun b H3 =>
    if b = true then tk σ2 H3 fun y H4 => tv σ2 H4 fun z H5 => ∃ kvs k b, y = .ref b ∧ H5 b = some (.tup (k.map kV)) ∧ H5 D = some (.dT kvs) ∧ kvs.length < sizeLine ∧ Nx (upd H5 D (.dT (putK kvs k z))) else Nx H3)
theorem dcT_core {pins : List (Addr × Obj)} {s : Shared} {σ : L2.St} {H : Hp} {Q : VK} {kx vx tg iter : Expr} {ifs : List Expr} {scope : Scope} {own : List (Str × Nat)} {pos pos' : Pos} {wi : TI} {g : TG} {tt : TT} {tk tv : TE} {use : Option (Value → Sem Unit)} {Qf : Value → Shared → Prop}
    (hu : X.A.units + 1 < cLine) (hc : X.calm = true) (hN : X.N.Nodup) (I : Inv X pins σ H s) (hi : PI X tg iter wi) (ok : BlkOk X.N X.env.scope scope own)
    (hg : ∀ (s : Shared) (H : Hp) (C : Addr) (cl : List (Str × Addr)) (fp : List Addr), PG (X.blk s H scope (compEnvC scope cl C X.env) fp) tg g) (ht : ∀ (s : Shared) (H : Hp) (C : Addr) (cl : List (Str × Addr)) (fp : List Addr), PTs (X.blk s H scope (compEnvC scope cl C X.env) fp) ifs tt)
    (hk : ∀ (s : Shared) (H : Hp) (C : Addr) (cl : List (Str × Addr)) (fp : List Addr), PE (X.blk s H scope (compEnvC scope cl C X.env) fp) kx tk)
    (he : ∀ (s : Shared) (H : Hp) (C : Addr) (cl : List (Str × Addr)) (fp : List Addr), PE (X.blk s H scope (compEnvC scope cl C X.env) fp) vx tv) (hs : ∀ x, foldedSetIterable iter X.env x = pure x)
    (h : tDcT wi g tt tk tv (own.map (·.2)) σ H Q)
    (hRR : ∀ D C s' m H', Inv X pins σ H' s' → Q (.ref D) H' → s'.heap.Ns C m → FpOk X pins H' C → compPost (model X.prog X.w) X.A X.xe use Qf (.ref D) C (.ok .next) s') :
    wpAny (model X.prog X.w) X.A (comprehension (.DictComp kx vx [⟨tg, iter, ifs, 0⟩] scope pos) scope X.env pos' newDict false (eval iter X.env) use) Qf X.xe s := by
  have freeC : ∀ y ∈ scope.names, y.2 = .free → ∃ c, X.env.cells.lookup y.1 = some c := fun y hy e => by
    rcases ok.free y hy e with k | k
    · exact I.ok.has _ (.inl k)
    · exact I.ok.has _ (.inr k)
  refine wpAny_comprehension_free (use := use) rfl hs (closure_ok freeC) ok.kind (fun y hy e => by rw [ok.uniq y hy, e])
    (thn (hi.run pins s σ H _ I h) fun xv sa hx => thn hx fun itv sb h2 => ?_)
  obtain ⟨it, fp, tn, J, Hb, e, Jb, T, u2, w2, qq0⟩ := h2
  subst e
  refine wpAny_newObj_type (newEnv_comp ?_)
  generalize atD : sb.heap.objs.size = D
  have newD : Hb D = none := Jb.hok.fresh (Nat.le_of_eq atD)
  obtain ⟨W, ⟨m0, start0⟩, goOn⟩ := qq0 D newD
  -- the new list
  generalize eqS : ({ sb with heap := sb.heap.push { cls := .type "dict", data := .dict #[] } } : Shared) = sc
  have Jc : Inv X pins σ (upd Hb D (.dT [])) sc := by
    rw [← eqS]
    refine Jb.laid (t' := sb.toks) (fun b o e => Heap.get?_push_of_some _ e) (Nat.le_of_eq atD) ?_
    rw [← atD]
    exact dt_empty sb.heap Jb.big
  have eqC : sc.heap = sb.heap.push { cls := .type "dict", data := .dict #[] } := by rw [← eqS]
  have szF : ∀ b ∈ fp, b < sb.heap.objs.size := fun b hb => by
    obtain ⟨o, e, _⟩ := T.obj _ _ u2 b hb
    exact Heap.lt_size e
  have w3 : ∀ b ∈ fp, FpOk X pins (upd Hb D (.dT [])) b ∧ b < sc.heap.objs.size := fun b hb => by
    have ltF := szF b hb
    refine ⟨⟨?_, (w2 b hb).2⟩, by rw [eqC, Heap.size_push]; exact Nat.lt_succ_of_lt ltF⟩
    rw [upd_ne (by rw [← atD]; exact Nat.ne_of_lt ltF)]
    exact (w2 b hb).1
  have u3 : tn 0 sc.heap := T.keep _ _ _ u2 fun b _ o e => by rw [eqC]; exact Heap.get?_push_of_some _ e
  have Jd := block_start Jc ok hN w3
  have runG := hg sc (upd Hb D (.dT [])) sc.heap.objs.size (cellsFrom (sc.heap.objs.size + 1) scope.names (cloFrom X.env.cells scope.names [])) fp
  have runT := ht sc (upd Hb D (.dT [])) sc.heap.objs.size (cellsFrom (sc.heap.objs.size + 1) scope.names (cloFrom X.env.cells scope.names [])) fp
  have runK := hk sc (upd Hb D (.dT [])) sc.heap.objs.size (cellsFrom (sc.heap.objs.size + 1) scope.names (cloFrom X.env.cells scope.names [])) fp
  have runV := he sc (upd Hb D (.dT [])) sc.heap.objs.size (cellsFrom (sc.heap.objs.size + 1) scope.names (cloFrom X.env.cells scope.names [])) fp
  show codeAny _ _ (.compStart (.DictComp kx vx [⟨tg, iter, ifs, 0⟩] scope pos) 0 (.ref it) (.ref D) (compEnvC scope (cellsFrom (sc.heap.objs.size + 1) scope.names (cloFrom X.env.cells scope.names [])) sc.heap.objs.size X.env)) (compPost (model X.prog X.w) X.A X.xe use Qf (.ref D) sc.heap.objs.size) { sc with heap := pushCells (sc.heap.push { cls := .type "dict", data := .dict #[] }) scope.names }
  have outF : ∀ b ∈ fp, (upd Hb D (.dT [])) b = none := fun b hb => (w3 b hb).1.1
  generalize eqE : compEnvC scope (cellsFrom (sc.heap.objs.size + 1) scope.names (cloFrom X.env.cells scope.names [])) sc.heap.objs.size X.env = ev at Jd runG runT runK runV ⊢
  have locE : ev.locals = sc.heap.objs.size := by subst eqE; rfl
  generalize eqH : upd Hb D (.dT []) = Hc at Jc Jd runG runT runK runV start0 outF w3
  generalize eqU : ({ sc with heap := pushCells (sc.heap.push { cls := .type "dict", data := .dict #[] }) scope.names } : Shared) = sd at Jd ⊢
  have u4 : tn 0 sd.heap := T.keep _ _ _ u3 fun b _ o e => by rw [← eqU]; exact pushCells_keeps _ _ _ _ (Heap.get?_push_of_some _ e)
  have steady : ∀ {σ' : L2.St} {H' : Hp} {s' : Shared}, Inv (X.blk sc Hc scope ev fp) [] σ' H' s' → (∀ b ∈ fp, H' b = none) → ∀ b ∈ fp, FpOk (X.blk sc Hc scope ev fp) [] H' b := fun {σ' H' s'} I' hn b hb =>
    ⟨hn b hb, (I'.ok.exf b hb).1, I'.ok.exfs b hb, .inl hb, fun x c e => (I'.ok.exf b hb).2 x c e, fun p hp => absurd (show p ∈ ([] : List (Addr × Obj)) ++ [] from hp) (by simp)⟩
  have turns : codeAny (model X.prog X.w) X.A (.compLoop (.DictComp kx vx [⟨tg, iter, ifs, 0⟩] scope pos) 0 (.ref it) (.ref D) ev) (compPost (model X.prog X.w) X.A X.xe use Qf (.ref D) sc.heap.objs.size) sd := by
    refine compLoop_anyD (fun n s' => ∃ i H', Inv (X.blk sc Hc scope ev fp) [] (wipe σ (own.map (·.2))) H' s' ∧ tn i s'.heap ∧ (∀ b ∈ fp, H' b = none) ∧ W i n H') ?_ m0 ⟨0, Hc, Jd, u4, outF, start0⟩
    rintro n se ⟨i, He, Je, u5, outE, startE⟩
    rcases goOn i n He startE with ⟨halt, qq⟩ | ⟨goes, Nx, nextN, oneT⟩
    · have dne := T.done (X.blk sc Hc scope ev fp) rfl rfl rfl hc i [] se _ He (fun _ _ => False) Je (steady Je outE) u5 halt
      refine thnF dne fun r sf ⟨hr, Jf⟩ => ?_
      subst hr
      -- back in the def's context
      have Jg : Inv X pins σ He sf := Jc.call' (ch := fp) Jf.os Jf.base Jf.hok Jf.bare fun b hb => ⟨(w3 b hb).1.2.2.2.1, (w3 b hb).1.2.1, (w3 b hb).1.2.2.2.2.1, (w3 b hb).1.2.2.2.2.2⟩
      have freshC : He sc.heap.objs.size = none := by
        have z : He ev.locals = none := Jf.free
        rw [locE] at z
        exact z
      obtain ⟨m, hn, _⟩ := Jf.loc
      have hn : sf.heap.Ns ev.locals m := hn
      rw [locE] at hn
      exact hRR D sc.heap.objs.size sf m He Jg qq hn (Jc.fpOk (Nat.le_refl _) freshC)
    · have itm := T.item (X.blk sc Hc scope ev fp) rfl rfl rfl hc i [] se _ He (fun _ _ => False) Je (steady Je outE) u5 goes
      refine thnF itm fun r sf ⟨u, hr, h6⟩ => ?_
      subst hr
      refine thnF h6 fun _ sg ⟨x, Hg, Jg, relG, yldG, u7, outG⟩ => ?_
      have I7' := Jg.pinned (steady Jg outG) (T.obj _ _ u7)
      refine thnF (runG.run _ sg _ Hg x u _ I7' relG (oneT x Hg yldG)) fun _ sh ⟨σ8, Hh, Jh, wipeH, postH⟩ => ?_
      refine thnF (runT.run _ sh σ8 Hh _ Jh postH) fun b si ⟨Hi, Ji, postI⟩ => ?_
      -- the turn's end
      have endT : ∀ {s' : Shared} {H' : Hp}, Inv (X.blk sc Hc scope ev fp) ([] ++ pinsAt fp sg.heap) σ8 H' s' → Nx H' → ∃ m, m < n ∧ ∃ i H', Inv (X.blk sc Hc scope ev fp) [] (wipe σ (own.map (·.2))) H' s' ∧ tn i s'.heap ∧ (∀ b ∈ fp, H' b = none) ∧ W i m H' := fun {s' H'} I' nx => by
        obtain ⟨m', hm, w'⟩ := nextN H' nx
        have pin' : ∀ b ∈ fp, ∀ o, sg.heap.get? b = some o → s'.heap.get? b = some o ∧ H' b = none := fun b hb o e =>
          let z := I'.pin (b, o) (List.mem_append_right _ (List.mem_append_right _ (mem_pinsAt hb e)))
          ⟨z.1, z.2.1⟩
        have hl : (wipe σ (own.map (·.2))).length = σ8.length := by rw [← wipeH, wipe_length]
        refine ⟨m', hm, i + 1, H', (I'.unpinned (pins := [])).weak hl (fun j v e => ?_), T.keep _ _ _ u7 fun b hb o e => (pin' b hb o e).1, fun b hb => ?_, w'⟩
        · rw [← wipeH] at e
          exact (wipe_some e).1
        · obtain ⟨o, e, _⟩ := T.obj _ _ u7 b hb
          exact (pin' b hb o e).2
      cases b with
      | false =>
        simp only [Bool.false_eq_true, if_false] at postI ⊢
        exact endT Ji postI
      | true =>
        simp only [if_true] at postI ⊢
        refine thnF (runK.run _ si σ8 Hi _ Ji postI) fun z sj ⟨yk, Hj, Jj, relJ, q10⟩ => ?_
        refine thnF (runV.run _ sj σ8 Hj _ Jj q10) fun z2 sk ⟨yv, Hk, Jk, relK, kvs, k, kb, ek, hkb, hD11, hz11, nx⟩ => ?_
        subst ek
        exact dict_setT (X := X.blk sc Hc scope ev fp) hu Jk hD11 hkb hz11 relJ relK fun sl Jl => endT Jl nx
  exact codeAny_compStart_dict turns (T.self X.A 0 _ _ _ u4 turns)
theorem pe_dcT {kx vx tg iter : Expr} {ifs : List Expr} {scope : Scope} {own : List (Str × Nat)} {pos : Pos} {wi : TI} {g : TG} {tt : TT} {tk tv : TE} (hu : X.A.units + 1 < cLine) (hc : X.calm = true) (hN : X.N.Nodup) (hi : PI X tg iter wi) (ok : BlkOk X.N X.env.scope scope own)
    (hg : ∀ (s : Shared) (H : Hp) (C : Addr) (cl : List (Str × Addr)) (fp : List Addr), PG (X.blk s H scope (compEnvC scope cl C X.env) fp) tg g) (ht : ∀ (s : Shared) (H : Hp) (C : Addr) (cl : List (Str × Addr)) (fp : List Addr), PTs (X.blk s H scope (compEnvC scope cl C X.env) fp) ifs tt)
    (hk : ∀ (s : Shared) (H : Hp) (C : Addr) (cl : List (Str × Addr)) (fp : List Addr), PE (X.blk s H scope (compEnvC scope cl C X.env) fp) kx tk) (he : ∀ (s : Shared) (H : Hp) (C : Addr) (cl : List (Str × Addr)) (fp : List Addr), PE (X.blk s H scope (compEnvC scope cl C X.env) fp) vx tv)
    (hs : ∀ x, foldedSetIterable iter X.env x = pure x := by intro _; rfl) : PE X (.DictComp kx vx [⟨tg, iter, ifs, 0⟩] scope pos) (tDcT wi g tt tk tv (own.map (·.2))) := by
  refine ⟨fun pins s σ H Q I q => ?_⟩
  rw [arm_eval_DictComp]
  refine dcT_core hu hc hN I hi ok hg ht hk he hs q fun D C sx m Hx Ix qx hn f => ⟨m, hn, fun hy sb => ?_⟩
  obtain ⟨f0, f1, f2, f3, f4, f5⟩ := f
  exact ⟨.ref D, Hx, Ix.turned (t' := sx.toks) (fun b o hb e => (sb.2 b hb).trans e) f0 f1 f3 f4 f5, rfl, qx⟩
end
end K48
/-! ## KX4 -/
set_option maxHeartbeats 1000000
namespace K48
open PySem L2 PyProof.Rows HT
/-! ### t[::-1], t a pair -/
section
variable {prog : Program} {w : World} {A : Around} {E : Value → Shared → Prop} {s : Shared}
theorem applied_rev2 {sl : Addr} {va vb vc : Value} {Q : Int × Int × Nat → Shared → Prop} (hs : s.heap.IsSliceOf sl va vb vc) (pa : IsPart va none) (pb : IsPart vb none) (pc : IsPart vc (some (-1))) (q : Q (1, -1, 2) s) :
    wpAny (model prog w) A (Builtin.Slice.sliceApplied (.ref sl) (pure 2)) Q E s := by
  obtain ⟨os, ho, hc, hd⟩ := id hs
  unfold Builtin.Slice.sliceApplied
  unfold Builtin.Slice.sliceFields
  refine wpAny_bind <| wpAny_bind <| wpAny_field ho hd (x := va) rfl <| wpAny_bind <| wpAny_field ho hd (x := vb) rfl <| wpAny_bind <| wpAny_field ho hd (x := vc) rfl <| wpAny_pure ?_
  refine wpAny_bind <| slicePart_ pc ?_
  change wpAny _ _ (if ((-1 : Int) == 0) = true then _ else _) _ _ s
  rw [if_neg (by decide)]
  refine wpAny_bind <| slicePart_ pa <| wpAny_bind <| slicePart_ pb <| wpAny_bind <| wpAny_pure ?_
  exact wpAny_pure q
theorem getItem_rev2 {t sl : Addr} {x y va vb vc : Value} {Q : Value → Shared → Prop} (ht : IsTup s.heap t #[x, y]) (hs : s.heap.IsSliceOf sl va vb vc) (pa : IsPart va none) (pb : IsPart vb none) (pc : IsPart vc (some (-1)))
    (q : Q (.ref s.heap.objs.size) { s with heap := s.heap.push { cls := .type "tuple", data := .seq #[y, x] } }) : wpAny (model prog w) A (getItem (.ref t) (.ref sl)) Q E s := by
  have z2 : sizeOk (.seq #[y, x]) := by change (2 : Nat) ≤ sizeLine; decide
  obtain ⟨os, ho, hc, hd⟩ := id hs
  have tS : s.TypeIs (.ref sl) "slice" := ⟨os, ho, hc⟩
  unfold getItem
  try with_reducible refine wpAny_holding ?_
  first | refine wpAny_bind (wpAny_pure ?_) | skip
  refine wpAny_bind <| wpAny_sequenceKey ht.typeIs (by decide) ?_
  refine wpAny_bind <| wpAny_callSpecial?_slot (name := Str.ofString "__getitem__") ht.typeIs PyProof.Rows.slot_tuple_getitem <| wpAny_call_entry PyProof.Rows.slot_tuple_getitem ht.typeIs entry_tuple_getitem ?_ (args_tuple_getitem _ _)
  change wpAny _ _ (Builtin.Tuple.tupleItemsOf (.ref t) >>= _) _ _ s
  refine wpAny_bind <| tupleItemsOf_ ht <| wpAny_bind <| wpAny_typeOf tS ?_
  rw [if_pos (by decide)]
  refine wpAny_bind <| applied_rev2 hs pa pb pc ?_
  first
    | exact wpAny_bind (m := Builtin.Tuple.tupleExact _) (wpAny_newObj_type (wpAny_pure ⟨_, rfl, wpAny_pure q⟩) z2)
    | exact wpAny_bind (m := Builtin.Tuple.tupleExact _) (wpAny_newObj_type (wpAny_bind (wpAny_pure (wpAny_pure ⟨_, rfl, wpAny_pure q⟩))) z2)
end
def tRev2 (te : TE) : TE := fun σ H Q => te σ H fun x H1 => ∃ a u v, x = .ref a ∧ H1 a = some (.tup [u, v]) ∧ ∀ p, H1 p = none → Q (.ref p) (upd H1 p (.tup [v, u]))
theorem pe_rev2 {X : Cx} {e : Expr} {te : TE} {k : Nat} {p1 p2 p3 pos : Pos} (he : PE X e te) : PE X (.Subscript e (.Slice none none (some (.UnaryOp .USub (.Constant (.int 1) k p1) p2)) p3) pos) (tRev2 te) := by
  refine ⟨fun pins s σ H Q I h => ?_⟩
  refine Subscript_ (thn (he.run pins s σ H _ I h) fun z sa hz => ?_)
  obtain ⟨x, Ha, Ia, rx, a, u, v, ex, ha, q⟩ := hz
  subst ex
  cases rx
  have st : PO X (some (.UnaryOp .USub (.Constant (.int 1) k p1) p2)) (tPart (tUn (rU fun i => .int (-i)) (tC (.int 1)))) := po_some (pe_un un_neg pe_int)
  refine wpAny_Slice (thn (po_none.run pins sa σ Ha (fun o Hn => o = none ∧ Hn = Ha) Ia ⟨rfl, rfl⟩) fun vl sb hb => ?_)
  obtain ⟨l, Hb, Ib, pl, el, eb⟩ := hb
  subst el eb
  refine thn (po_none.run pins sb σ Hb (fun o Hn => o = none ∧ Hn = Hb) Ib ⟨rfl, rfl⟩) fun vu sc hc => ?_
  obtain ⟨l2, Hc, Ic, pu, eu, ec⟩ := hc
  subst eu ec
  refine thn (st.run pins sc σ Hc (fun o Hn => o = some (-1) ∧ Hn = Hc) Ic ⟨1, rfl, -1, rfl, rfl, rfl⟩) fun vs sd hd => ?_
  obtain ⟨l3, Hd, Id, ps, es, ed⟩ := hd
  subst es ed
  have Ie : Inv X pins σ Hd { sd with heap := sd.heap.push { cls := .type "slice", data := .fields #[vl, vu, vs] } } := Id.kept (t' := sd.toks) fun b ob g => Heap.get?_push_of_some _ g
  obtain ⟨its, r, p, hz⟩ := Ie.tuple (.inl (.inl ha))
  cases r with
  | cons ru r =>
    cases r with
    | cons rv r =>
      cases r
      change wpAny (model X.prog X.w) X.A (subscriptTail e (.Slice none none (some (.UnaryOp .USub (.Constant (.int 1) k p1) p2)) p3) (.ref a) (.ref sd.heap.objs.size)) (EP X pins σ Q) X.xe { sd with heap := sd.heap.push { cls := .type "slice", data := .fields #[vl, vu, vs] } }
      refine tail_any (ops := [.ref a, .ref sd.heap.objs.size]) (IsTup.typeIs p) (PyProof.Rows.slot_tuple_getitem.lookup) ?_ (by with_unfolding_all rfl)
      refine getItem_rev2 p (Heap.IsSliceOf.new _ vl vu vs) pl pu ps ?_
      exact ⟨.ref _, _, Ie.laid (t' := sd.toks) (o := .tup [v, u]) (fun b ob g => Heap.get?_push_of_some _ g) (Nat.le_refl _) ⟨by change 2 ≤ sizeLine; decide, _, .cons rv (.cons ru .nil), ⟨_, Heap.get?_push_size _ rfl, rfl, _, rfl⟩⟩, rfl, q _ (Ie.hok.fresh (Nat.le_refl _))⟩
end K48
/-! ## KP -/
set_option maxHeartbeats 1000000
namespace K48
open PySem L2
/-! ### classes and methods as they stand behind the top -/
section
variable {P : Program} {w : World} {K : PySem.W.Frag} {mg : Str → Option Value} {base : Heap} {m x qual : Str} {C : Addr} {st : Stmt} {N ps : List Str} {k : Nat} {sp : Sp}
/-- a method -/
structure Mn (K : PySem.W.Frag) (C : Addr) (m qual : Str) (st : Stmt) : Prop where
  ex : ∃ (f : Addr) (fd : FuncData), L2.Fun K m qual st f fd ∧ Meth K C m f
/-- __init__ -/
structure In (K : PySem.W.Frag) (mg : Str → Option Value) (x : Str) (C : Addr) (qual : Str) (st : Stmt) : Prop where
  ex : ∃ (f : Addr) (fd : FuncData), L2.Fun K "__init__" qual st f fd ∧ Mk K C f ∧ mg x = some (.ref C)
/-- the getter of a property -/
structure Pn (K : PySem.W.Frag) (C : Addr) (m qual : Str) (st : Stmt) : Prop where
  ex : ∃ (p f : Addr) (fd : FuncData), L2.Fun K m qual st f fd ∧ PropOf K C m p f
/-- a special method -/
structure Sn (K : PySem.W.Frag) (C : Addr) (m qual : Str) (st : Stmt) : Prop where
  ex : ∃ (f : Addr) (fd : FuncData), L2.Fun K m qual st f fd ∧ PySem.W.selfFirst K C = true ∧ PySem.W.findIn K (.ref C) m = some (some (.ref f)) ∧ PySem.W.isFn K (.ref f) = true
abbrev Body (P : Program) (w : World) (K : PySem.W.Frag) (mg : Str → Option Value) (base : Heap) (N : List Str) (qual : Str) (st : Stmt) (k : Nat) (sp : Sp) : Prop :=
  ∀ (f : Addr) (cdv : Value) (A : Around) (outer : List Env) (s : Shared) (H : Hp) (vs : List V) (Q : VK) (E : XK), Room k (A.deeper (PyProof.Rows.envOfC qual (defScope st) s.heap.objs.size f cdv)) → sp vs H Q E →
    ∃ t, PSs (cxOf C8.CX0 P w K mg base N qual (defScope st) f cdv A outer s H E).nox (defBody st) t ∧ t { nx := fun _ H' => Q .non H', rt := Q } (start N vs) H
abbrev BindsAll (x qual : Str) (st : Stmt) (ps : List Str) : Prop := ∀ (kV doc pm : Value) (an : Option Addr) (cdv ct : Value) (us : List Value), us.length = ps.length → bindArgs (PySem.W.fnOf x qual (defArgs st) (defBody st) (defScope st) .none kV doc pm an cdv ct) ⟨us, []⟩ = pure (ps.zip us)
theorem Mn.met (F : Mn K C m qual st) (c : Cls K C) (S : FnScope N ps (defScope st)) (len : ∀ vs H Q E, sp vs H Q E → vs.length = ps.length) (b : BindsAll m qual st ps) (h : Body P w K mg base N qual st k sp) : C8.Met P w K mg base (k + 1) C m sp [] := by
  obtain ⟨f, fd, F1, me⟩ := F.ex
  exact ⟨f, fd, ps, [], c, me, L2.Fun.ok F1 S len fun cdv A outer s H vs Q E hr q => h f cdv A outer s H vs Q E hr q, L2.Fun.binds F1 b, .nil⟩
theorem In.mak (F : In K mg x C qual st) (S : FnScope N ps (defScope st)) (len : ∀ vs H Q E, sp vs H Q E → vs.length = ps.length) (b : BindsAll "__init__" qual st ps) (h : Body P w K mg base N qual st k sp) : C8.Mak P w K mg base (k + 1) x C sp [] := by
  obtain ⟨f, fd, F1, M, hm⟩ := F.ex
  exact ⟨f, fd, ps, [], M, L2.Fun.ok F1 S len fun cdv A outer s H vs Q E hr q => h f cdv A outer s H vs Q E hr q, hm, L2.Fun.binds F1 b, .nil⟩
theorem Pn.prp (F : Pn K C m qual st) (c : Cls K C) (S : FnScope N ps (defScope st)) (len : ∀ vs H Q E, sp vs H Q E → vs.length = ps.length) (b : BindsAll m qual st ps) (h : Body P w K mg base N qual st k sp) : Prp P w K mg base (k + 1) C m sp := by
  obtain ⟨p, f, fd, F1, pr⟩ := F.ex
  exact ⟨p, f, fd, ps, c, pr, L2.Fun.ok F1 S len fun cdv A outer s H vs Q E hr q => h f cdv A outer s H vs Q E hr q, L2.Fun.binds F1 b⟩
theorem Sn.spc (F : Sn K C m qual st) (c : Cls K C) (S : FnScope N ps (defScope st)) (len : ∀ vs H Q E, sp vs H Q E → vs.length = ps.length) (b : BindsAll m qual st ps) (h : Body P w K mg base N qual st k sp) : Spc P w K mg base (k + 1) C m sp := by
  obtain ⟨f, fd, F1, s1, s2, s3⟩ := F.ex
  exact ⟨f, fd, ps, c, s1, s2, s3, L2.Fun.ok F1 S len fun cdv A outer s H vs Q E hr q => h f cdv A outer s H vs Q E hr q, L2.Fun.binds F1 b⟩
end
/-- what an own class has for its fields -/
structure CF (K : PySem.W.Frag) (C : Addr) (fs : List Str) : Prop where
  cls : Cls K C
  no : ∀ f ∈ fs, NoAttr K C f
section
variable {σ : St} {H H1 G1 : Hp} {Q : VK} {te tv : TE} {D : Ends} {K : PySem.W.Frag} {C a : Addr} {f : Str} {v : V} {ns : List Str}
def fldQ (K : PySem.W.Frag) (f : Str) (Q : VK) (x : V) (H1 : Hp) : Prop := ∃ a C dx fs v, x = .ref a ∧ H1 a = some (.ins C dx fs) ∧ Cls K C ∧ NoAttr K C f ∧ fs.lookup f = some v ∧ Q v H1
def sfldQ (K : PySem.W.Frag) (f : Str) (R : Hp → Prop) (y x : V) (H2 : Hp) : Prop := ∃ a C dx fs, x = .ref a ∧ H2 a = some (.ins C dx fs) ∧ Cls K C ∧ NoAttr K C f ∧ fs.length < 1000 ∧ R (upd H2 a (.ins C dx (putF f y fs)))
def methQ (C : Addr) (m : Str) (ts : TA) (σ : St) (R : List V → Hp → Prop) (x : V) (H1 : Hp) : Prop := ∃ a dx fs, x = .ref a ∧ H1 a = some (.ins C dx fs) ∧ fs.lookup m = none ∧ ts σ H1 R
theorem r_fldG (k : te σ H (fldQ K f Q)) : tFld K te f σ H Q := k
theorem r_sfldG (k : tv σ H fun y H1 => te σ H1 (sfldQ K f (D.nx σ) y)) : sFld K te tv f D σ H := k
/-- x.f, of an object that is told -/
theorem r_field (c : CF K C ns) (hf : f ∈ ns) {dx : Addr} {fs : List (Str × V)} (h : H a = some (.ins C dx fs)) (l : fs.lookup f = some v) (k : Q v H) : fldQ K f Q (.ref a) H :=
  ⟨a, C, dx, fs, v, rfl, h, c.cls, c.no f hf, l, k⟩
theorem r_setf {R : Hp → Prop} (c : CF K C ns) (hf : f ∈ ns) {dx : Addr} {fs : List (Str × V)} (h : H a = some (.ins C dx fs)) (hl : Nat.ble fs.length 900 = true) (k : ∀ H2, H2 a = some (.ins C dx (putF f v fs)) → (∀ r, r ≠ a → H2 r = H r) → R H2) : sfldQ K f R v (.ref a) H :=
  ⟨a, C, dx, fs, rfl, h, c.cls, c.no f hf, by have := Nat.le_of_ble_eq_true hl; omega, k _ upd_same fun r hr => upd_ne hr⟩
end
end K48
/-! ## KD15 -/
set_option maxHeartbeats 4000000
namespace K48
open PySem L2
local macro_rules | `(tactic| walk_at "r1") => `(tactic| first
  | with_reducible refine r_seq ?_ | with_reducible refine r_asg ?_ | with_reducible refine r_ret ?_ | with_reducible refine r_drop ?_ | with_reducible refine r_if ?_ | with_reducible refine r_next ?_
  | with_reducible refine r_name ?_ | with_reducible refine r_c ?_ | ((with_reducible show tVar _ _ _ _); refine r_var rfl ?_) | with_reducible refine r_op ?_ | with_reducible refine r_un ?_
  | with_reducible refine r_i0 ?_ | with_reducible refine r_test ?_ | with_reducible refine r_tB ?_ | with_reducible refine r_bl ?_ | with_reducible refine r_and ?_ | with_reducible refine r_or ?_
  | with_reducible refine r_not ?_ | with_reducible refine r_ifE ?_ | with_reducible refine r_cons ?_ | with_reducible refine r_nil ?_ | with_reducible refine r_cb ?_ | with_reducible refine r_call ?_
  | with_reducible refine r_lstG ?_ | with_reducible refine r_tupG ?_ | with_reducible refine r_sl ?_ | with_reducible refine r_noP ?_ | with_reducible refine r_part ?_ | with_reducible refine r_exI ?_
  | with_reducible refine r_tr ?_ | with_reducible refine r_fa ?_ | with_reducible refine r_for ?_ | with_reducible refine r_iList ?_ | with_reducible refine r_iTup ?_ | with_reducible refine r_iStr ?_
  | with_reducible refine r_iR1 ?_ | with_reducible refine r_iR2 ?_ | with_reducible refine r_lc ?_ | with_reducible refine r_nt ?_ | with_reducible refine r_nf ?_ | with_reducible refine r_orV ?_ | with_reducible refine r_andV ?_ | with_reducible refine r_yesT ?_ | with_reducible refine r_gsub ?_ | with_reducible refine r_gcons ?_ | with_reducible refine r_gnil ?_ | with_reducible refine r_bm ?_ | with_reducible refine r_bm0 ?_
  | with_reducible refine r_fldG ?_ | with_reducible refine r_sfldG ?_ | with_reducible refine r_meth ?_ | with_reducible refine r_make ?_ | with_reducible refine r_dget ?_ | with_reducible refine r_din ?_ | with_reducible refine r_dnin ?_ | with_reducible refine r_dput ?_
  | with_reducible refine r_dgetN ?_ | with_reducible refine r_dinN ?_ | with_reducible refine r_dninN ?_ | with_reducible refine r_dputN ?_ | ((with_reducible show tAug _ _ _ _ _ _); refine r_aug rfl ?_) | with_reducible refine r_par ?_ | with_reducible refine r_neg ?_ | with_reducible refine r_iEnum ?_ | with_reducible refine r_iZip ?_ | with_reducible refine r_iZipA ?_)
local macro_rules | `(tactic| walk_at "r") => `(tactic| repeat walk_at "r1")

/-! ### machines of the package -/
def AtomP (G : Hp) (v : V) (x : Bool × List Str) : Prop := ∃ a c, v = .ref a ∧ G a = some (.tup [.bl x.1, .ref c]) ∧ StrT G c x.2
theorem AtomP.mono {G G' : Hp} (s : Same G G') {v : V} {x : Bool × List Str} (h : AtomP G v x) : AtomP G' v x := by
  obtain ⟨a, c, e, h1, h2⟩ := h
  exact ⟨a, c, e, s _ _ h1, s _ _ h2⟩
abbrev fld (fs : List (Str × V)) (f : Str) : Option V := fs.lookup f
abbrev machF : List Str := ["atoms", "firsts", "lasts", "pairs", "is_optional"]
structure MachP (CM : Addr) (G : Hp) (a : Addr) (m : ML Str) : Prop where
  ex : ∃ dx fs x f l d vs dkv, G a = some (.ins CM dx fs) ∧ fld fs "atoms" = some (.ref x) ∧ fld fs "firsts" = some (.ref f) ∧ fld fs "lasts" = some (.ref l) ∧ fld fs "pairs" = some (.ref d) ∧ fld fs "is_optional" = some (.bl m.opt) ∧
    (∀ z ∈ (["takes", "begun", "is_done", "is_behind"] : List Str), fs.lookup z = none) ∧ G x = some (.lst vs) ∧ Seq2 (AtomP G) vs m.atoms ∧ NatL G f m.firsts ∧ NatL G l m.lasts ∧ G d = some (.dT dkv) ∧ ∀ x y : Nat, (valV dkv [.inl (x : Int), .inl (y : Int)]).isSome = decide ((x, y) ∈ m.pairs)
theorem MachP.mono {CM : Addr} {G G' : Hp} (s : Same G G') {a : Addr} {m : ML Str} (h : MachP CM G a m) : MachP CM G' a m := by
  obtain ⟨dx, fs, x, f, l, d, vs, dkv, h1, h2, h3, h4, h5, h6, h7, h8, h9, h10, h11, h12, h13⟩ := h.ex
  exact ⟨dx, fs, x, f, l, d, vs, dkv, s _ _ h1, h2, h3, h4, h5, h6, h7, s _ _ h8, h9.mono fun _ _ => AtomP.mono s, s _ _ h10, s _ _ h11, s _ _ h12, h13⟩
def spPTakes (CM : Addr) : Sp := fun vs H Q _ => ∃ (a : Addr) (m : ML Str) (i : Nat) (x : Bool × List Str) (l : Str), vs = [.ref a, .int (i : Nat), .str l] ∧ MachP CM H a m ∧ m.atoms[i]? = some x ∧ Q (.bl (atomT x l)) H
def spPBehind (CM : Addr) : Sp := fun vs H Q _ => ∃ (a t : Addr) (m : ML Str) (ps : List Nat) (k : Nat), vs = [.ref a, .ref t, .int (k : Nat)] ∧ MachP CM H a m ∧ NatT H t ps ∧ ps.length ≤ 100 ∧ ∀ H', Same H H' → Q (.bl (ps.any fun p => m.mach.foll p k)) H'
def spPDone (CM : Addr) : Sp := fun vs H Q _ => ∃ (a t : Addr) (m : ML Str) (ps : List Nat), vs = [.ref a, .ref t] ∧ MachP CM H a m ∧ NatT H t ps ∧ ps.length ≤ 100 ∧ ∀ H', Same H H' → Q (.bl (m.mach.done ps)) H'
def spPBegun (CM : Addr) : Sp := fun vs H Q _ => ∃ (a t : Addr) (m : ML Str) (ps : List Nat) (l : Str), vs = [.ref a, .ref t, .str l] ∧ MachP CM H a m ∧ NatT H t ps ∧ ps.length ≤ 100 ∧ m.atoms.length ≤ 100 ∧
  ∀ (q : Addr) (H' : Hp), Same H H' → H q = none → NatT H' q (m.mach.begun ps l) → Q (.ref q) H'
section
variable {P : Program} {w : World} {K : PySem.W.Frag} {mg : Str → Option Value} {base : Heap} {CM : Addr}
abbrev st_Machine_takes : Stmt := inClass (topS 14) 1
abbrev N_Machine_takes : List Str := ["self", "atom", "lane", "is_any", "names"]
theorem sc_Machine_takes : FnScope N_Machine_takes ["self", "atom", "lane"] (defScope st_Machine_takes) := ⟨rfl, rfl, rfl, by decide +kernel, rfl, by decide +kernel, by decide +kernel⟩
theorem ok_Machine_takes (T : Top K mg) (cM : CF K CM machF) (F : Mn K CM "takes" "Machine.takes" st_Machine_takes) : C8.Met P w K mg base 1 CM "takes" (spPTakes CM) [] := by
  refine F.met cM.cls sc_Machine_takes (fun vs H Q E h => ?_) (fun _ _ _ _ _ _ us hl => match us, hl with | [_, _, _], _ => rfl) (fun f cdv A outer s H vs Q E hr h => ?_)
  · obtain ⟨a, m, i, x, l, rfl, _⟩ := h
    rfl
  · obtain ⟨a, m, i, x, l, rfl, hm, hx, k⟩ := h
    obtain ⟨dx, fs, x1, f1, l1, d1, vs, dkv, h1, h2, h3, h4, h5, h6, h7, h8, h9, h10, h11, h12, h13⟩ := hm.ex
    obtain ⟨av, hav, ta, tc, rfl, hta, htc⟩ := h9.at' hx
    refine ⟨_, (pss_cons (ps_asg (pe_ix ix_list (pe_fld (pv 0) rfl) (pv 1) (fun _ _ => rfl)) (pg_tup rfl (pgs_cons (pg_name (i := 3) sc_Machine_takes.nd rfl (Or.inl rfl)) (pgs_cons (pg_name (i := 4) sc_Machine_takes.nd rfl (Or.inl rfl)) pgs_nil))))
  (pss_one (ps_ret (pe_cmpR op_eq (pe_cmpR op_in_seq (pv 2) (pv 4) (by rfl)) (pv 3) (nomark _))))), ?_⟩
    walk_at "r"
    refine r_field cM (by decide) h1 h2 ?_
    walk_at "r"
    refine r_ixL h8 hav ?_
    refine r_gtup hta rfl ?_
    walk_at "r"
    refine r_inS (ks := x.2) (.inr (.inl (.inl htc))) ?_
    walk_at "r"
    refine r_eq rfl ?_
    have e : decide (V.bl (decide (l ∈ x.2)) = V.bl x.1) = atomT x l := by
      unfold atomT
      cases decide (l ∈ x.2) <;> cases x.1 <;> rfl
    rw [e]
    exact k
theorem any_id (bs : List Nat) (f : Nat → Bool) : ((bs.map f).any id) = bs.any f := by
  rw [List.any_map]; rfl
abbrev st_Machine_is_behind : Stmt := inClass (topS 14) 3
abbrev N_Machine_is_behind : List Str := ["self", "places", "atom", "place"]
theorem sc_Machine_is_behind : FnScope N_Machine_is_behind ["self", "places", "atom"] (defScope st_Machine_is_behind) := ⟨rfl, rfl, rfl, by decide +kernel, rfl, by decide +kernel, by decide +kernel⟩
theorem ok_Machine_is_behind (T : Top K mg) (cM : CF K CM machF) (F : Mn K CM "is_behind" "Machine.is_behind" st_Machine_is_behind) : C8.Met P w K mg base 1 CM "is_behind" (spPBehind CM) [] := by
  refine F.met cM.cls sc_Machine_is_behind (fun vs H Q E h => ?_) (fun _ _ _ _ _ _ us hl => match us, hl with | [_, _, _], _ => rfl) (fun f cdv A outer s H vs Q E hr h => ?_)
  · obtain ⟨a, t, m, ps, k, rfl, _⟩ := h
    rfl
  · obtain ⟨a, t, m, ps, kk, rfl, hm, ht, hps, k⟩ := h
    obtain ⟨dx, fs, x1, f1, l1, d1, vs, dkv, h1, h2, h3, h4, h5, h6, h7, h8, h9, h10, h11, h12, h13⟩ := hm.ex
    refine ⟨_, (pss_one (ps_ret (pe_callB (cr_any rfl) rfl T.b_any (by decide +kernel) (pa_cons (pe_lc (own := [("place", 3)]) (g := (gName 3)) (tt := tYes) rfl sc_Machine_is_behind.nd (pi_tup (pv 1)) (blkOk_by (N := N_Machine_is_behind) (sc := defScope st_Machine_is_behind) (by decide +kernel)) (fun _ _ _ _ _ => (pg_name (i := 3) sc_Machine_is_behind.nd rfl (Or.inl rfl))) (fun _ _ _ _ _ => pts_nil) (fun _ _ _ _ _ => (pe_cmp (pc_din (hu1 hr) (pe_tup (pa_cons (pv 3) (pa_cons (pv 2) pa_nil))) ((pe_fld (pv 0) rfl) : PE _ _ (tFld K _ _))) rfl))) pa_nil)))), ?_⟩
    walk_at "r"
    refine ⟨t, rfl, ⟨_, .inl (.inl ht)⟩, fun Dl hD => ?_⟩
    refine lc_it (walk_tup (xs := ps.map natV)) (fun j H' => Same H H' ∧ H' Dl = some (.lst (((ps.take j).map fun p => m.mach.foll p kk).map V.bl))) ⟨same_upd hD, upd_same⟩ (fun _ _ _ h => .inl (.inl (h.1 _ _ ht))) ?_ ?_
    · rintro j v H1' H1 hj ⟨s1, hDl⟩ ⟨rfl, hx⟩
      rw [List.getElem?_map] at hx
      obtain ⟨p, hp, rfl⟩ := Option.map_eq_some_iff.mp hx
      walk_at "r"
      refine ⟨rfl, ?_⟩
      walk_at "r"
      refine h_tup rfl fun q H2 s2 hq hq0 => ?_
      have s2' := s1.trans s2
      walk_at "r"
      refine r_field cM (by decide) (s2' _ _ h1) h5 ?_
      refine ⟨d1, _, rfl, DGet.t (k := [.inl (p : Int), .inl (kk : Int)]) (s2' _ _ h12) hq, ?_⟩
      rw [h13]
      refine ⟨_, s2 _ _ hDl, ?_, s2'.upd_mut hD, ?_⟩
      · rw [List.length_map, List.length_map, List.length_take]; exact small_lt (by omega)
      · rw [upd_same, take_snoc hp, List.map_append, List.map_append]
        rfl
    · rintro H1 ⟨s1, hDl⟩
      rw [List.take_of_length_le (by rw [List.length_map]; exact Nat.le_refl _)] at hDl
      walk_at "r"
      refine ⟨Dl, _, rfl, .inl (.inl hDl), ?_⟩
      rw [any_id]
      exact k H1 s1
abbrev st_Machine_is_done : Stmt := inClass (topS 14) 6
abbrev N_Machine_is_done : List Str := ["self", "places", "place"]
theorem sc_Machine_is_done : FnScope N_Machine_is_done ["self", "places"] (defScope st_Machine_is_done) := ⟨rfl, rfl, rfl, by decide +kernel, rfl, by decide +kernel, by decide +kernel⟩
theorem ok_Machine_is_done (T : Top K mg) (cM : CF K CM machF) (F : Mn K CM "is_done" "Machine.is_done" st_Machine_is_done) : C8.Met P w K mg base 1 CM "is_done" (spPDone CM) [] := by
  refine F.met cM.cls sc_Machine_is_done (fun vs H Q E h => ?_) (fun _ _ _ _ _ _ us hl => match us, hl with | [_, _], _ => rfl) (fun f cdv A outer s H vs Q E hr h => ?_)
  · obtain ⟨a, t, m, ps, rfl, _⟩ := h
    rfl
  · obtain ⟨a, t, m, ps, rfl, hm, ht, hps, k⟩ := h
    obtain ⟨dx, fs, x1, f1, l1, d1, vs, dkv, h1, h2, h3, h4, h5, h6, h7, h8, h9, h10, h11, h12, h13⟩ := hm.ex
    refine ⟨_, (pss_one (ps_ret (pe_callB (cr_any rfl) rfl T.b_any (by decide +kernel) (pa_cons (pe_lc (own := [("place", 2)]) (g := (gName 2)) (tt := tYes) rfl sc_Machine_is_done.nd (pi_tup (pv 1)) (blkOk_by (N := N_Machine_is_done) (sc := defScope st_Machine_is_done) (by decide +kernel)) (fun _ _ _ _ _ => (pg_name (i := 2) sc_Machine_is_done.nd rfl (Or.inl rfl))) (fun _ _ _ _ _ => pts_nil) (fun _ _ _ _ _ => (pe_cmpR (op_in_seq : OpR _ _ (rIn K false)) (pv 2) ((pe_fld (pv 0) rfl) : PE _ _ (tFld K _ _)) (by rfl)))) pa_nil)))), ?_⟩
    walk_at "r"
    refine ⟨t, rfl, ⟨_, .inl (.inl ht)⟩, fun Dl hD => ?_⟩
    refine lc_it (walk_tup (xs := ps.map natV)) (fun j H' => Same H H' ∧ H' Dl = some (.lst (((ps.take j).map m.mach.last).map V.bl))) ⟨same_upd hD, upd_same⟩ (fun _ _ _ h => .inl (.inl (h.1 _ _ ht))) ?_ ?_
    · rintro j v H1' H1 hj ⟨s1, hDl⟩ ⟨rfl, hx⟩
      rw [List.getElem?_map] at hx
      obtain ⟨p, hp, rfl⟩ := Option.map_eq_some_iff.mp hx
      walk_at "r"
      refine ⟨rfl, ?_⟩
      walk_at "r"
      refine r_field cM (by decide) (s1 _ _ h1) h4 ?_
      refine r_inN (.inl (.inl (.inl (s1 _ _ h11)))) ?_
      refine ⟨_, hDl, ?_, s1.upd_mut hD, ?_⟩
      · rw [List.length_map, List.length_map, List.length_take]; exact small_lt (by omega)
      · rw [upd_same, take_snoc hp, List.map_append, List.map_append]
        rfl
    · rintro H1 ⟨s1, hDl⟩
      rw [List.take_of_length_le (by rw [List.length_map]; exact Nat.le_refl _)] at hDl
      walk_at "r"
      refine ⟨Dl, _, rfl, .inl (.inl hDl), ?_⟩
      rw [any_id]
      exact k H1 s1
end
end K48
/-! ## KD16 -/
set_option maxHeartbeats 4000000
namespace K48
open PySem L2
local macro_rules | `(tactic| walk_at "r1") => `(tactic| first
  | with_reducible refine r_seq ?_ | with_reducible refine r_asg ?_ | with_reducible refine r_ret ?_ | with_reducible refine r_drop ?_ | with_reducible refine r_if ?_ | with_reducible refine r_next ?_
  | with_reducible refine r_name ?_ | with_reducible refine r_c ?_ | ((with_reducible show tVar _ _ _ _); refine r_var rfl ?_) | with_reducible refine r_op ?_ | with_reducible refine r_un ?_
  | with_reducible refine r_i0 ?_ | with_reducible refine r_test ?_ | with_reducible refine r_tB ?_ | with_reducible refine r_bl ?_ | with_reducible refine r_and ?_ | with_reducible refine r_or ?_
  | with_reducible refine r_not ?_ | with_reducible refine r_ifE ?_ | with_reducible refine r_cons ?_ | with_reducible refine r_nil ?_ | with_reducible refine r_cb ?_ | with_reducible refine r_call ?_
  | with_reducible refine r_lstG ?_ | with_reducible refine r_tupG ?_ | with_reducible refine r_sl ?_ | with_reducible refine r_noP ?_ | with_reducible refine r_part ?_ | with_reducible refine r_exI ?_
  | with_reducible refine r_tr ?_ | with_reducible refine r_fa ?_ | with_reducible refine r_for ?_ | with_reducible refine r_iList ?_ | with_reducible refine r_iTup ?_ | with_reducible refine r_iStr ?_
  | with_reducible refine r_iR1 ?_ | with_reducible refine r_iR2 ?_ | with_reducible refine r_lc ?_ | with_reducible refine r_nt ?_ | with_reducible refine r_nf ?_ | with_reducible refine r_orV ?_ | with_reducible refine r_andV ?_ | with_reducible refine r_yesT ?_ | with_reducible refine r_gsub ?_ | with_reducible refine r_gcons ?_ | with_reducible refine r_gnil ?_ | with_reducible refine r_bm ?_ | with_reducible refine r_bm0 ?_
  | with_reducible refine r_fldG ?_ | with_reducible refine r_sfldG ?_ | with_reducible refine r_meth ?_ | with_reducible refine r_make ?_ | with_reducible refine r_dget ?_ | with_reducible refine r_din ?_ | with_reducible refine r_dnin ?_ | with_reducible refine r_dput ?_
  | with_reducible refine r_dgetN ?_ | with_reducible refine r_dinN ?_ | with_reducible refine r_dninN ?_ | with_reducible refine r_dputN ?_ | ((with_reducible show tAug _ _ _ _ _ _); refine r_aug rfl ?_) | with_reducible refine r_par ?_ | with_reducible refine r_neg ?_ | with_reducible refine r_iEnum ?_ | with_reducible refine r_iZip ?_ | with_reducible refine r_iZipA ?_)
local macro_rules | `(tactic| walk_at "r") => `(tactic| repeat walk_at "r1")

theorem lcx_it {J : It} {n : Nat} {G : Hp → Prop} {Y : Nat → Hp → V → Hp → Prop} {In : St → Hp → (Hp → Prop) → Prop} (w : Walk J n G Y) {g : TG} {tt : TT} {vs : List Nat} {σ : St} {H0 : Hp} {Qd : Hp → Prop} (Pv : Nat → Hp → Prop) (h0 : Pv 0 H0) (hG : ∀ i H, i ≤ n → Pv i H → G H)
    (hs : ∀ i x H H', i < n → Pv i H → Y i H x H' → g x (wipe σ vs) H' fun σ2 H2 => wipe σ2 vs = wipe σ vs ∧ tt σ2 H2 fun b H3 => if b = true then In σ2 H3 (Pv (i + 1)) else Pv (i + 1) H3) (hd : ∀ H, Pv n H → Qd H) :
    ∃ W : Nat → Nat → Hp → Prop, (∃ m, W 0 m H0) ∧ ∀ i m H, W i m H → (J.stop i H ∧ Qd H) ∨ (J.go i H ∧ ∃ Nx : Hp → Prop, (∀ H', Nx H' → ∃ m', m' < m ∧ W (i + 1) m' H') ∧ ∀ x H', J.yld i H x H' → g x (wipe σ vs) H' fun σ2 H2 => wipe σ2 vs = wipe σ vs ∧ tt σ2 H2 fun b H3 =>
      if b = true then In σ2 H3 Nx else Nx H3) := by
  refine ⟨fun i m H => m = n - i ∧ i ≤ n ∧ Pv i H, ⟨_, rfl, Nat.zero_le _, h0⟩, fun i m H hw => ?_⟩
  obtain ⟨em, hi, pv⟩ := hw
  by_cases c : i < n
  · exact .inr ⟨w.goes i H c (hG i H hi pv), Pv (i + 1), fun H' p' => ⟨n - (i + 1), by omega, rfl, c, p'⟩, fun x H' y => hs i x H H' c pv (w.yields i H x H' c (hG i H hi pv) y)⟩
  · have e : i = n := by omega
    rw [e] at pv ⊢
    exact .inl ⟨w.stops H (hG n H (Nat.le_refl _) pv), hd H pv⟩
section
variable {P : Program} {w : World} {K : PySem.W.Frag} {mg : Str → Option Value} {base : Heap} {CM : Addr}
abbrev st_Machine_begun : Stmt := inClass (topS 14) 4
abbrev N_Machine_begun : List Str := ["self", "places", "lane", "size", "atom", "open_atoms"]
theorem sc_Machine_begun : FnScope N_Machine_begun ["self", "places", "lane"] (defScope st_Machine_begun) := ⟨rfl, rfl, rfl, by decide +kernel, rfl, by decide +kernel, by decide +kernel⟩
theorem ok_Machine_begun (T : Top K mg) (cM : CF K CM machF) (F : Mn K CM "begun" "Machine.begun" st_Machine_begun) (c_takes : C8.Met P w K mg base 1 CM "takes" (spPTakes CM) []) (c_is_behind : C8.Met P w K mg base 1 CM "is_behind" (spPBehind CM) []) : C8.Met P w K mg base 2 CM "begun" (spPBegun CM) [] := by
  refine F.met cM.cls sc_Machine_begun (fun vs H Q E h => ?_) (fun _ _ _ _ _ _ us hl => match us, hl with | [_, _, _], _ => rfl) (fun f cdv A outer s H vs Q E hr h => ?_)
  · obtain ⟨a, t, m, ps, l, rfl, _⟩ := h
    rfl
  · obtain ⟨a, t, m, ps, l, rfl, hm, ht, hps, hma, k⟩ := h
    obtain ⟨dx, fs, x1, f1, l1, d1, vs, dkv, h1, h2, h3, h4, h5, h6, h7, h8, h9, h10, h11, h12, h13⟩ := hm.ex
    refine ⟨_, (pss_cons (ps_set (i := 3) sc_Machine_begun.nd rfl (Or.inl rfl) (pe_callB (call_len_seq : CallR _ _ (rLenQ K)) rfl T.b_len (by decide +kernel) (pa_cons (pe_fld (pv 0) rfl) pa_nil)))
  (pss_cons (ps_setLc (i := 5) (own := [("atom", 4)]) (g := (gName 4)) rfl sc_Machine_begun.nd rfl rfl (sw_true rfl rfl rfl (by decide +kernel)) (pi_range1 rfl T.b_range (pa_cons (pv 3) pa_nil)) (blkOk_by (N := N_Machine_begun) (sc := defScope st_Machine_begun) (by decide +kernel)) (fun _ _ _ _ _ => (pg_name (i := 4) sc_Machine_begun.nd rfl (Or.inl rfl))) (fun _ _ _ _ _ => (pts_one (PW.pt (pw_or (pt_cmpR (op_in_seq : OpR _ _ (rIn K false)) (pv 4) ((pe_fld (pv 0) rfl) : PE _ _ (tFld K _ _)) (by rfl)) (pw_or1 (pt_val (C8.pe_mt c_is_behind hr (by omega) (pv 0) (pa_cons (pv 1) (pa_cons (pv 4) pa_nil))))))))) (fun _ _ _ _ _ => (pv 4)))
  (pss_one (ps_ret (pe_callTy (call_tuple_of : CallR _ _ (rTupQ K)) rfl T.b_tuple (by decide +kernel) (pa_cons (pe_lc (own := [("atom", 4)]) (g := (gName 4)) rfl sc_Machine_begun.nd (pi_list (pv 5)) (blkOk_by (N := N_Machine_begun) (sc := defScope st_Machine_begun) (by decide +kernel)) (fun _ _ _ _ _ => (pg_name (i := 4) sc_Machine_begun.nd rfl (Or.inl rfl))) (fun _ _ _ _ _ => (pts_one (pt_val (C8.pe_mt c_takes hr (by omega) (pv 0) (pa_cons (pv 4) (pa_cons (pv 2) pa_nil)))))) (fun _ _ _ _ _ => (pv 4))) pa_nil)))))), ?_⟩
    walk_at "r"
    refine r_field cM (by decide) h1 h2 ?_
    walk_at "r"
    refine r_lenQL h8 ?_
    walk_at "r"
    rw [h9.1]
    refine ⟨_, rfl, by omega, by omega, fun Dl hD => ?_⟩
    let op : Nat → Bool := fun k => m.mach.first k || ps.any fun p => m.mach.foll p k
    refine lc_it walk_rng0 (fun i H' => Same H H' ∧ NatL H' Dl ((List.range i).filter op)) ⟨same_upd hD, upd_same⟩ (fun _ _ _ _ => trivial) ?_ ?_
    · rintro i x H1' H1 hi ⟨s1, hDl⟩ ⟨rfl, rfl⟩
      have hi' : i < m.atoms.length := hi
      have hrange : (List.range (i + 1)).filter op = (List.range i).filter op ++ [i].filter op := by rw [List.range_succ, List.filter_append]
      have szr : (((List.range i).filter op).map natV).length < sizeLine := by
        rw [List.length_map]
        exact small_lt (Nat.le_trans (List.length_filter_le _ _) (by rw [List.length_range]; omega))
      have yes : ∀ H2, Same H1 H2 → op i = true → ∃ acc, H2 Dl = some (.lst acc) ∧ acc.length < sizeLine ∧ Same H (upd H2 Dl (.lst (acc ++ [natV i]))) ∧ NatL (upd H2 Dl (.lst (acc ++ [natV i]))) Dl ((List.range (i + 1)).filter op) := fun H2 s2 hb => by
        refine ⟨_, s2 _ _ hDl, szr, (s1.trans s2).upd_mut hD, ?_⟩
        show upd _ _ _ _ = _
        rw [upd_same, hrange, List.filter_cons_of_pos hb, List.filter_nil, List.map_append]; rfl
      walk_at "r"
      refine ⟨rfl, ?_⟩
      walk_at "r"
      refine r_field cM (by decide) (s1 _ _ h1) h3 ?_
      refine r_inN (.inl (.inl (.inl (s1 _ _ h10)))) ?_
      walk_at "r"
      by_cases c : i ∈ m.firsts
      · refine r_yes (decide_eq_true c) ?_
        walk_at "r"
        exact yes H1 (Same.refl _) (by show (decide (i ∈ m.firsts) || _) = true; rw [decide_eq_true c]; rfl)
      · refine r_no (decide_eq_false c) ?_
        walk_at "r"
        refine ⟨a, dx, fs, rfl, s1 _ _ h1, h7 _ (by decide), ?_⟩
        walk_at "r"
        refine ⟨a, t, m, ps, i, rfl, hm.mono s1, s1 _ _ ht, hps, fun H2 s2 => ?_⟩
        walk_at "r"
        by_cases c2 : (ps.any fun p => m.mach.foll p i) = true
        · refine r_yes c2 ?_
          walk_at "r"
          exact yes H2 s2 (by show (_ || ps.any fun p => m.mach.foll p i) = true; rw [c2, Bool.or_true])
        · refine r_no (eq_false_of_ne_true c2) ?_
          refine ⟨s1.trans s2, ?_⟩
          rw [hrange, List.filter_cons_of_neg (by show ¬ (decide (i ∈ m.firsts) || ps.any fun p => m.mach.foll p i) = true; rw [decide_eq_false c, eq_false_of_ne_true c2]; decide), List.filter_nil, List.append_nil]
          exact s2 _ _ hDl
    · rintro H1 ⟨s1, hDl⟩
      have hDl : NatL H1 Dl ((List.range m.atoms.length).filter op) := hDl
      have hol : ((List.range m.atoms.length).filter op).length ≤ 100 := Nat.le_trans (List.length_filter_le _ _) (by rw [List.length_range]; exact hma)
      walk_at "r"
      refine ⟨Dl, rfl, ⟨_, .inl (.inl hDl)⟩, fun Dm hDm => ?_⟩
      have hDm0 : H Dm = none := by
        cases e : H Dm with
        | none => rfl
        | some u => rw [s1 _ _ e] at hDm; cases hDm
      refine lc_it (walk_list (xs := ((List.range m.atoms.length).filter op).map natV)) (fun j H' => Same H1 H' ∧ NatL H' Dm ((((List.range m.atoms.length).filter op).take j).filter fun k => m.mach.takes k l)) ⟨same_upd hDm, upd_same⟩ (fun _ _ _ h => .inl (.inl (h.1 _ _ hDl))) ?_ ?_
      · rintro j v H2' H2 hj ⟨s2, hDm2⟩ ⟨rfl, hx⟩
        rw [List.getElem?_map] at hx
        obtain ⟨p, hp, rfl⟩ := Option.map_eq_some_iff.mp hx
        have hpr : p < m.atoms.length := List.mem_range.mp (List.mem_filter.mp (List.mem_of_getElem? hp)).1
        have hat : m.atoms[p]? = some m.atoms[p] := List.getElem?_eq_getElem hpr
        walk_at "r"
        refine ⟨rfl, ?_⟩
        walk_at "r"
        refine ⟨a, dx, fs, rfl, s2 _ _ (s1 _ _ h1), h7 _ (by decide), ?_⟩
        walk_at "r"
        refine ⟨a, m, p, _, l, rfl, (hm.mono s1).mono s2, hat, ?_⟩
        rw [← ML.takes_at hat l]
        walk_at "r"
        rw [take_snoc hp, List.filter_append]
        by_cases c : m.mach.takes p l = true
        · refine r_yes c ?_
          walk_at "r"
          refine ⟨_, hDm2, ?_, s2.upd_mut hDm, ?_⟩
          · rw [List.length_map]
            exact small_lt (Nat.le_trans (List.length_filter_le _ _) (by rw [List.length_take]; omega))
          · show upd _ _ _ _ = _
            rw [upd_same, List.filter_cons_of_pos (p := fun k => m.mach.takes k l) c, List.filter_nil, List.map_append]; rfl
        · refine r_no (eq_false_of_ne_true c) ?_
          refine ⟨s2, ?_⟩
          rw [List.filter_cons_of_neg (p := fun k => m.mach.takes k l) c, List.filter_nil, List.append_nil]
          exact hDm2
      · rintro H2 ⟨s2, hDm2⟩
        rw [List.take_of_length_le (by rw [List.length_map]; exact Nat.le_refl _)] at hDm2
        walk_at "r"
        refine e_tupQ (Same.refl H2) hDm2 fun q G3 H3 e3 hq hq0 => ?_
        have s3 := (s1.trans s2).trans e3.same
        refine k q H3 s3 ?_ ?_
        · cases e : H q with
          | none => rfl
          | some u => rw [(s1.trans s2) _ _ e] at hq0; cases hq0
        · have hq := e3.at hq
          rw [List.filter_filter] at hq
          have e : ((List.range m.atoms.length).filter fun a => m.mach.takes a l && op a) = m.mach.begun ps l := by
            show _ = (List.range m.atoms.length).filter fun a => op a && m.mach.takes a l
            refine congrArg (fun f => List.filter f (List.range m.atoms.length)) (funext fun a => Bool.and_comm _ _)
          rw [e] at hq
          exact hq
abbrev st_crossed : Stmt := topS 17
abbrev N_crossed : List Str := ["one", "two", "first", "second"]
theorem sc_crossed : FnScope N_crossed ["one", "two"] (defScope st_crossed) := ⟨rfl, rfl, rfl, by decide +kernel, rfl, by decide +kernel, by decide +kernel⟩
theorem ok_crossed (T : Top K mg) (F : Dn K mg "crossed" st_crossed) : Cal P w K mg base 1 "crossed" spCrossed := by
  refine F.cal sc_crossed (fun vs H Q E h => ?_) (fun _ _ _ _ _ _ us hl => match us, hl with | [_, _], _ => rfl) (fun f cdv A outer s H vs Q E hr h => ?_)
  · obtain ⟨a, b, xs, ys, G, rfl, _⟩ := h
    rfl
  · obtain ⟨a, b, xs, ys, G, rfl, sg, ha, hb, hx, hy, k⟩ := h
    refine ⟨_, (pss_one (ps_ret (pe_lc2 (own := [("first", 2), ("second", 3)]) (vs1 := [3]) (g := (gName 2)) (g1 := (gName 3)) (tt := tYes) (tt1 := tYes) rfl sc_crossed.nd (pi_list (pv 0)) (blkOk_by (N := N_crossed) (sc := defScope st_crossed) (by decide +kernel)) (by decide) (fun _ _ _ _ _ => (pg_name (i := 2) sc_crossed.nd rfl (Or.inl rfl))) (fun _ _ _ _ _ => pts_nil) (fun _ _ _ _ _ => (pi_list (pv 1) : PI _ _ _ (iList K _))) (fun _ _ _ _ _ => (pg_name (i := 3) sc_crossed.nd rfl (Or.inl rfl))) (fun _ _ _ _ _ => pts_nil) (fun _ _ _ _ _ => (pe_tup (pa_cons (pv 2) (pa_cons (pv 3) pa_nil))))))), ?_⟩
    walk_at "r"
    show iList K (tVar 0) _ _ fun J H1 => ∀ D, H1 D = none → _
    refine r_iList ?_
    walk_at "r"
    refine ⟨a, rfl, ⟨_, .inl (.inl (sg _ _ ha))⟩, fun Dl hD => ?_⟩
    have g0 := (Grow.refl sg (m := no)).newH (o := .lst []) hD
    have hDG := (Grow.refl sg (m := no)).free1 hD
    refine lcx_it (walk_list (xs := xs.map natV)) (fun i H' => ∃ (G' : Hp) (us : List V), Grow no G H G' H' ∧ G' Dl = none ∧ H' Dl = some (.lst us) ∧ Seq2 (PairV G') us (crossedL (xs.take i) ys)) ⟨G, [], g0, hDG, upd_same, .nil⟩ (fun _ _ _ ⟨_, _, g, _⟩ => .inl (.inl (g.at (g.gg _ _ ha)))) ?_ ?_
    · rintro i v H1' H1 hi ⟨G1, us, g, hDG, hDl, hu⟩ ⟨rfl, hv⟩
      rw [List.getElem?_map] at hv
      obtain ⟨x, hxi, rfl⟩ := Option.map_eq_some_iff.mp hv
      walk_at "r"
      refine ⟨rfl, ?_⟩
      walk_at "r"
      refine ⟨b, rfl, ⟨_, .inl (.inl (g.at (g.gg _ _ hb)))⟩, ?_⟩
      have hul : us.length ≤ 100 * 100 := by
        rw [hu.1, crossedL_len, List.length_take]
        exact Nat.mul_le_mul (by omega) hy
      refine lcx_it (walk_list (xs := ys.map natV)) (fun j H' => ∃ (G' : Hp) (us2 : List V), Grow no G H G' H' ∧ Same G1 G' ∧ G' Dl = none ∧ H' Dl = some (.lst (us ++ us2)) ∧ Seq2 (PairV G') us2 ((ys.take j).map fun y => (x, y))) ⟨G1, [], g, Same.refl _, hDG, by rw [List.append_nil]; exact hDl, .nil⟩ (fun _ _ _ ⟨_, _, g, _⟩ => .inl (.inl (g.at (g.gg _ _ hb)))) ?_ ?_
      · rintro j v H2' H2 hj ⟨G2, us2, g2, s12, hDG2, hDl2, hu2⟩ ⟨rfl, hv⟩
        rw [List.getElem?_map] at hv
        obtain ⟨y, hyj, rfl⟩ := Option.map_eq_some_iff.mp hv
        walk_at "r"
        refine ⟨rfl, ?_⟩
        walk_at "r"
        refine e_tup g2.gh rfl fun t G3 H3 e3 ht _ => ?_
        have hDG3 := e3.new Dl hDG2 (by rw [hDl2]; intro z; cases z)
        refine ⟨_, e3.same _ _ hDl2, ?_, G3, us2 ++ [.ref t], (g2.trans e3).mut hDG3 (.inl hD), s12.trans e3.gg, hDG3, by rw [upd_same, List.append_assoc], ?_⟩
        · rw [List.length_append, hu2.1, List.length_map, List.length_take]; exact small_lt (by omega)
        · rw [take_snoc hyj, List.map_append]
          exact (hu2.mono fun _ _ => PairV.mono e3.gg).snoc ⟨t, rfl, ht⟩
      · rintro H2 ⟨G2, us2, g2, s12, hDG2, hDl2, hu2⟩
        rw [List.take_of_length_le (by rw [List.length_map]; exact Nat.le_refl _)] at hu2
        refine ⟨G2, us ++ us2, g2, hDG2, hDl2, ?_⟩
        rw [take_snoc hxi, crossedL_snoc]
        exact (hu.mono fun _ _ => PairV.mono s12).app hu2
    · rintro H1 ⟨G1, us, g, hDG, hDl, hu⟩
      rw [List.take_of_length_le (by rw [List.length_map]; exact Nat.le_refl _)] at hu
      have sG : Same G1 (upd G1 Dl (.lst us)) := same_upd hDG
      exact k Dl us _ H1 (g.tell hDl hD) upd_same (hu.mono fun _ _ => PairV.mono sG)
end
end K48
/-! ## KD17 -/
set_option maxHeartbeats 4000000
namespace K48
open PySem L2
local macro_rules | `(tactic| walk_at "r1") => `(tactic| first
  | with_reducible refine r_seq ?_ | with_reducible refine r_asg ?_ | with_reducible refine r_ret ?_ | with_reducible refine r_drop ?_ | with_reducible refine r_if ?_ | with_reducible refine r_next ?_
  | with_reducible refine r_name ?_ | with_reducible refine r_c ?_ | ((with_reducible show tVar _ _ _ _); refine r_var rfl ?_) | with_reducible refine r_op ?_ | with_reducible refine r_un ?_
  | with_reducible refine r_i0 ?_ | with_reducible refine r_test ?_ | with_reducible refine r_tB ?_ | with_reducible refine r_bl ?_ | with_reducible refine r_and ?_ | with_reducible refine r_or ?_
  | with_reducible refine r_not ?_ | with_reducible refine r_ifE ?_ | with_reducible refine r_cons ?_ | with_reducible refine r_nil ?_ | with_reducible refine r_cb ?_ | with_reducible refine r_call ?_
  | with_reducible refine r_lstG ?_ | with_reducible refine r_tupG ?_ | with_reducible refine r_sl ?_ | with_reducible refine r_noP ?_ | with_reducible refine r_part ?_ | with_reducible refine r_exI ?_
  | with_reducible refine r_tr ?_ | with_reducible refine r_fa ?_ | with_reducible refine r_for ?_ | with_reducible refine r_iList ?_ | with_reducible refine r_iTup ?_ | with_reducible refine r_iStr ?_
  | with_reducible refine r_iR1 ?_ | with_reducible refine r_iR2 ?_ | with_reducible refine r_lc ?_ | with_reducible refine r_nt ?_ | with_reducible refine r_nf ?_ | with_reducible refine r_orV ?_ | with_reducible refine r_andV ?_ | with_reducible refine r_yesT ?_ | with_reducible refine r_gsub ?_ | with_reducible refine r_gcons ?_ | with_reducible refine r_gnil ?_ | with_reducible refine r_bm ?_ | with_reducible refine r_bm0 ?_
  | with_reducible refine r_fldG ?_ | with_reducible refine r_sfldG ?_ | with_reducible refine r_meth ?_ | with_reducible refine r_make ?_ | with_reducible refine r_dget ?_ | with_reducible refine r_din ?_ | with_reducible refine r_dnin ?_ | with_reducible refine r_dput ?_
  | with_reducible refine r_dgetN ?_ | with_reducible refine r_dinN ?_ | with_reducible refine r_dninN ?_ | with_reducible refine r_dputN ?_ | ((with_reducible show tAug _ _ _ _ _ _); refine r_aug rfl ?_) | with_reducible refine r_par ?_ | with_reducible refine r_neg ?_ | with_reducible refine r_iEnum ?_ | with_reducible refine r_iZip ?_ | with_reducible refine r_iZipA ?_)
local macro_rules | `(tactic| walk_at "r") => `(tactic| repeat walk_at "r1")

structure MTup (G : Hp) (a : Addr) (m : ML Str) : Prop where
  ex : ∃ x f l ps vs ws, G a = some (.tup [.ref x, .ref f, .ref l, .ref ps, .bl m.opt]) ∧ G x = some (.lst vs) ∧ Seq2 (AtomP G) vs m.atoms ∧ NatL G f m.firsts ∧ NatL G l m.lasts ∧ G ps = some (.lst ws) ∧ Seq2 (PairV G) ws m.pairs
theorem readT_pairs : ∀ (t : PTree Str) (k : Nat), t.leaves ≤ 20 → (readT t k).pairs.length + 400 ≤ 2 ^ t.depth * 400
  | .any _, _, _ => by simp [readT, PTree.depth]
  | .non _, _, _ => by simp [readT, PTree.depth]
  | .rep t, k, h => by
    have h : t.leaves ≤ 20 := h
    have ih := readT_pairs t k h
    obtain ⟨h1, h2⟩ := readT_sizes t k
    have c : (readT t k).lasts.length * (readT t k).firsts.length ≤ 20 * 20 := Nat.mul_le_mul (by omega) (by omega)
    simp only [readT, List.length_append, crossedL_len, PTree.depth, Nat.pow_succ]
    omega
  | .opt t, k, h => by
    have ih := readT_pairs t k h
    simp only [readT, PTree.depth, Nat.pow_succ]
    omega
  | .either a b, k, h => by
    have h : a.leaves + b.leaves ≤ 20 := h
    have i1 := readT_pairs a k (by omega)
    have i2 := readT_pairs b (k + (readT a k).atoms.length) (by omega)
    have := pow_max a.depth b.depth
    simp only [readT, List.length_append, PTree.depth, Nat.pow_succ]
    omega
  | .join a b, k, h => by
    have h : a.leaves + b.leaves ≤ 20 := h
    have i1 := readT_pairs a k (by omega)
    have i2 := readT_pairs b (k + (readT a k).atoms.length) (by omega)
    obtain ⟨h1, h2⟩ := readT_sizes a k
    obtain ⟨g1, g2⟩ := readT_sizes b (k + (readT a k).atoms.length)
    have c : (readT a k).lasts.length * (readT b (k + (readT a k).atoms.length)).firsts.length ≤ 20 * 20 := Nat.mul_le_mul (by omega) (by omega)
    have := pow_max a.depth b.depth
    simp only [readT, List.length_append, crossedL_len, PTree.depth, Nat.pow_succ]
    omega
theorem readT_pairs6 {t : PTree Str} {k : Nat} (h : t.leaves ≤ 20) (hd : t.depth ≤ 6) : (readT t k).pairs.length ≤ 25600 := by
  have h1 := readT_pairs t k h
  have h2 : 2 ^ t.depth ≤ 2 ^ 6 := Nat.pow_le_pow_right (by decide) hd
  omega
def spReadT (D : Nat) : Sp := fun vs H Q _ => ∃ (v : V) (k : Nat) (t : PTree Str) (G : Hp), vs = [v, .int (k : Nat)] ∧ Same G H ∧ TreeAt G false t v ∧ t.depth < D ∧ t.depth ≤ 6 ∧ t.leaves ≤ 20 ∧
  ∀ (q : Addr) (G' H' : Hp), Grow no G H G' H' → MTup G' q (readT t k) → Q (.ref q) H'
section
variable {P : Program} {w : World} {K : PySem.W.Frag} {mg : Str → Option Value} {base : Heap} {CM : Addr}
abbrev st_read_tree : Stmt := topS 16
abbrev N_read_tree : List Str := ["tree", "start", "one", "two", "firsts", "lasts"]
theorem sc_read_tree : FnScope N_read_tree ["tree", "start"] (defScope st_read_tree) := ⟨rfl, rfl, rfl, by decide +kernel, rfl, by decide +kernel, by decide +kernel⟩
theorem ok_read_tree (T : Top K mg) (F : Dn K mg "read_tree" st_read_tree) (c_crossed : Cal P w K mg base 1 "crossed" spCrossed) : ∀ D, Cal P w K mg base (D + 2) "read_tree" (spReadT D) := by
  intro D
  induction D with
  | zero =>
    refine F.cal sc_read_tree (fun vs H Q E h => ?_) (fun _ _ _ _ _ _ us hl => match us, hl with | [_, _], _ => rfl) (fun f cdv A outer s H vs Q E hr h => ?_)
    · obtain ⟨v, k, t, G, rfl, _⟩ := h
      rfl
    · obtain ⟨v, k, t, G, rfl, _, _, h, _⟩ := h
      exact absurd h (Nat.not_lt_zero _)
  | succ D c_read_tree =>
    refine F.cal sc_read_tree (fun vs H Q E h => ?_) (fun _ _ _ _ _ _ us hl => match us, hl with | [_, _], _ => rfl) (fun f cdv A outer s H vs Q E hr h => ?_)
    · obtain ⟨v, k, t, G, rfl, _⟩ := h
      rfl
    · obtain ⟨v, k, t, G, rfl, sg, ht, hd, hd6, hl, q⟩ := h
      have g0 := Grow.refl sg (m := no)
      rcases ht.cases with ⟨b, ns, a, c, rfl, ha, hc, rfl⟩ | ⟨b, t1, a, x, rfl, ha, hx, rfl⟩ | ⟨b, t1, t2, a, x, y, rfl, ha, hx, hy, rfl⟩
      · refine ⟨_, (pss_cons (ps_if (PW.pt (pw_or (pt_cmpR op_eq (pe_ix ix_tup (pv 0) pe_int (fun _ _ => rfl)) pe_str (nomark _)) (pw_or1 (pt_cmpR op_eq (pe_ix ix_tup (pv 0) pe_int (fun _ _ => rfl)) pe_str (nomark _))))) (pss_one (ps_ret (pe_tup (pa_cons (pe_lst (pa_cons (pe_tup (pa_cons (pe_cmpR op_eq (pe_ix ix_tup (pv 0) pe_int (fun _ _ => rfl)) pe_str (nomark _)) (pa_cons (pe_ix ix_tup (pv 0) pe_int (fun _ _ => rfl)) pa_nil))) pa_nil)) (pa_cons (pe_lst (pa_cons (pv 1) pa_nil)) (pa_cons (pe_lst (pa_cons (pv 1) pa_nil)) (pa_cons (pe_lst pa_nil) (pa_cons pe_bl pa_nil)))))))) pss_nil)
  (pss_cons (ps_set (i := 2) sc_read_tree.nd rfl (Or.inl rfl) (C8.pe_c c_read_tree hr (by omega) rfl (pa_cons (pe_ix ix_tup (pv 0) pe_int (fun _ _ => rfl)) (pa_cons (pv 1) pa_nil))))
  (pss_cons (ps_if (pt_cmpR op_eq (pe_ix ix_tup (pv 0) pe_int (fun _ _ => rfl)) pe_str (nomark _)) (pss_one (ps_ret (pe_tup (pa_cons (pe_ix ix_tup (pv 2) pe_int (fun _ _ => rfl)) (pa_cons (pe_ix ix_tup (pv 2) pe_int (fun _ _ => rfl)) (pa_cons (pe_ix ix_tup (pv 2) pe_int (fun _ _ => rfl)) (pa_cons (pe_op op_cat (pe_ix ix_tup (pv 2) pe_int (fun _ _ => rfl)) (C8.pe_c c_crossed hr (by omega) rfl (pa_cons (pe_ix ix_tup (pv 2) pe_int (fun _ _ => rfl)) (pa_cons (pe_ix ix_tup (pv 2) pe_int (fun _ _ => rfl)) pa_nil)))) (pa_cons pe_bl pa_nil)))))))) pss_nil)
  (pss_cons (ps_if (pt_cmpR op_eq (pe_ix ix_tup (pv 0) pe_int (fun _ _ => rfl)) pe_str (nomark _)) (pss_one (ps_ret (pe_tup (pa_cons (pe_ix ix_tup (pv 2) pe_int (fun _ _ => rfl)) (pa_cons (pe_ix ix_tup (pv 2) pe_int (fun _ _ => rfl)) (pa_cons (pe_ix ix_tup (pv 2) pe_int (fun _ _ => rfl)) (pa_cons (pe_ix ix_tup (pv 2) pe_int (fun _ _ => rfl)) (pa_cons pe_bl pa_nil)))))))) pss_nil)
  (pss_cons (ps_set (i := 3) sc_read_tree.nd rfl (Or.inl rfl) (C8.pe_c c_read_tree hr (by omega) rfl (pa_cons (pe_ix ix_tup (pv 0) pe_int (fun _ _ => rfl)) (pa_cons (pe_op op_add (pv 1) (pe_callB (call_len_seq : CallR _ _ (rLenQ K)) rfl T.b_len (by decide +kernel) (pa_cons (pe_ix ix_tup (pv 2) pe_int (fun _ _ => rfl)) pa_nil))) pa_nil))))
  (pss_cons (ps_if (pt_cmpR op_eq (pe_ix ix_tup (pv 0) pe_int (fun _ _ => rfl)) pe_str (nomark _)) (pss_one (ps_ret (pe_tup (pa_cons (pe_op op_cat (pe_ix ix_tup (pv 2) pe_int (fun _ _ => rfl)) (pe_ix ix_tup (pv 3) pe_int (fun _ _ => rfl))) (pa_cons (pe_op op_cat (pe_ix ix_tup (pv 2) pe_int (fun _ _ => rfl)) (pe_ix ix_tup (pv 3) pe_int (fun _ _ => rfl))) (pa_cons (pe_op op_cat (pe_ix ix_tup (pv 2) pe_int (fun _ _ => rfl)) (pe_ix ix_tup (pv 3) pe_int (fun _ _ => rfl))) (pa_cons (pe_op op_cat (pe_ix ix_tup (pv 2) pe_int (fun _ _ => rfl)) (pe_ix ix_tup (pv 3) pe_int (fun _ _ => rfl))) (pa_cons (pe_or (pe_ix ix_tup (pv 2) pe_int (fun _ _ => rfl)) (pe_one (pe_ix ix_tup (pv 3) pe_int (fun _ _ => rfl)))) pa_nil)))))))) pss_nil)
  (pss_cons (ps_set (i := 4) sc_read_tree.nd rfl (Or.inl rfl) (pe_ifExp (pt_val (pe_ix ix_tup (pv 2) pe_int (fun _ _ => rfl))) (pe_op op_cat (pe_ix ix_tup (pv 2) pe_int (fun _ _ => rfl)) (pe_ix ix_tup (pv 3) pe_int (fun _ _ => rfl))) (pe_ix ix_tup (pv 2) pe_int (fun _ _ => rfl))))
  (pss_cons (ps_set (i := 5) sc_read_tree.nd rfl (Or.inl rfl) (pe_ifExp (pt_val (pe_ix ix_tup (pv 3) pe_int (fun _ _ => rfl))) (pe_op op_cat (pe_ix ix_tup (pv 2) pe_int (fun _ _ => rfl)) (pe_ix ix_tup (pv 3) pe_int (fun _ _ => rfl))) (pe_ix ix_tup (pv 3) pe_int (fun _ _ => rfl))))
  (pss_one (ps_ret (pe_tup (pa_cons (pe_op op_cat (pe_ix ix_tup (pv 2) pe_int (fun _ _ => rfl)) (pe_ix ix_tup (pv 3) pe_int (fun _ _ => rfl))) (pa_cons (pv 4) (pa_cons (pv 5) (pa_cons (pe_op op_cat (pe_op op_cat (pe_ix ix_tup (pv 2) pe_int (fun _ _ => rfl)) (pe_ix ix_tup (pv 3) pe_int (fun _ _ => rfl))) (C8.pe_c c_crossed hr (by omega) rfl (pa_cons (pe_ix ix_tup (pv 2) pe_int (fun _ _ => rfl)) (pa_cons (pe_ix ix_tup (pv 3) pe_int (fun _ _ => rfl)) pa_nil)))) (pa_cons (pe_and (pe_ix ix_tup (pv 2) pe_int (fun _ _ => rfl)) (pe_one (pe_ix ix_tup (pv 3) pe_int (fun _ _ => rfl)))) pa_nil)))))))))))))))), ?_⟩
        have g := g0
        have e0 : decide (V.str (kindS b) = V.str (Str.ofString "any")) = b := by
          cases b with
          | true => exact decide_eq_true rfl
          | false => exact decide_eq_false (by decide)
        refine r_seq ?_
        refine r_ifB true (H1 := H) (fun R' hR' => ?_) ?_
        · walk_at "r"
          refine r_ixT (j := 0) (g.at ha) rfl ?_
          walk_at "r"
          refine r_eq rfl ?_
          walk_at "r"
          rw [e0]
          cases b with
          | true =>
            walk_at "r"
            exact hR'
          | false =>
            walk_at "r"
            refine r_ixT (j := 0) (g.at ha) rfl ?_
            walk_at "r"
            refine r_eq rfl ?_
            walk_at "r"
            have e : decide (V.str (kindS false) = V.str (Str.ofString "none")) = true := by decide
            rw [e]
            exact hR'
        walk_at "r"
        refine r_ixT (j := 0) (g.at ha) rfl ?_
        walk_at "r"
        refine r_eq rfl ?_
        walk_at "r"
        rw [e0]
        refine r_ixT (j := 1) (g.at ha) rfl ?_
        walk_at "r"
        refine e_tup g.gh rfl fun p2 G2 H2 e2 hp2 _ => ?_
        have g := g.trans e2
        walk_at "r"
        refine e_lst g.gh rfl fun p3 G3 H3 e3 hp3 _ => ?_
        have g := g.trans e3
        walk_at "r"
        refine e_lst g.gh rfl fun p4 G4 H4 e4 hp4 _ => ?_
        have g := g.trans e4
        walk_at "r"
        refine e_lst g.gh rfl fun p5 G5 H5 e5 hp5 _ => ?_
        have g := g.trans e5
        walk_at "r"
        refine e_lst g.gh rfl fun p6 G6 H6 e6 hp6 _ => ?_
        have g := g.trans e6
        walk_at "r"
        refine e_tup g.gh rfl fun p7 G7 H7 e7 hp7 _ => ?_
        have g := g.trans e7
        refine q p7 G7 H7 g ?_
        have s6 := e7.gg
        have s5 := e6.gg.trans s6
        have s4 := e5.gg.trans s5
        have s3 := e4.gg.trans s4
        have s2 := e3.gg.trans s3
        have el : readT (PTree.atom b ns) k = ⟨[(b, ns)], [k], [k], [], false⟩ := by cases b <;> rfl
        rw [el]
        exact ⟨p3, p4, p5, p6, _, _, hp7, s3 _ _ hp3, .cons ⟨p2, c, rfl, s2 _ _ hp2, g.gg _ _ hc⟩ .nil, s4 _ _ hp4, s5 _ _ hp5, s6 _ _ hp6, .nil⟩
      · obtain ⟨ol, od⟩ := PTree.leaves_one b t1
        refine ⟨_, (pss_cons (ps_if (PW.pt (pw_or (pt_cmpR op_eq (pe_ix ix_tup (pv 0) pe_int (fun _ _ => rfl)) pe_str (nomark _)) (pw_or1 (pt_cmpR op_eq (pe_ix ix_tup (pv 0) pe_int (fun _ _ => rfl)) pe_str (nomark _))))) (pss_one (ps_ret (pe_tup (pa_cons (pe_lst (pa_cons (pe_tup (pa_cons (pe_cmpR op_eq (pe_ix ix_tup (pv 0) pe_int (fun _ _ => rfl)) pe_str (nomark _)) (pa_cons (pe_ix ix_tup (pv 0) pe_int (fun _ _ => rfl)) pa_nil))) pa_nil)) (pa_cons (pe_lst (pa_cons (pv 1) pa_nil)) (pa_cons (pe_lst (pa_cons (pv 1) pa_nil)) (pa_cons (pe_lst pa_nil) (pa_cons pe_bl pa_nil)))))))) pss_nil)
  (pss_cons (ps_set (i := 2) sc_read_tree.nd rfl (Or.inl rfl) (C8.pe_c c_read_tree hr (by omega) rfl (pa_cons (pe_ix ix_tup (pv 0) pe_int (fun _ _ => rfl)) (pa_cons (pv 1) pa_nil))))
  (pss_cons (ps_if (pt_cmpR op_eq (pe_ix ix_tup (pv 0) pe_int (fun _ _ => rfl)) pe_str (nomark _)) (pss_one (ps_ret (pe_tup (pa_cons (pe_ix ix_tup (pv 2) pe_int (fun _ _ => rfl)) (pa_cons (pe_ix ix_tup (pv 2) pe_int (fun _ _ => rfl)) (pa_cons (pe_ix ix_tup (pv 2) pe_int (fun _ _ => rfl)) (pa_cons (pe_op op_cat (pe_ix ix_tup (pv 2) pe_int (fun _ _ => rfl)) (C8.pe_c c_crossed hr (by omega) rfl (pa_cons (pe_ix ix_tup (pv 2) pe_int (fun _ _ => rfl)) (pa_cons (pe_ix ix_tup (pv 2) pe_int (fun _ _ => rfl)) pa_nil)))) (pa_cons pe_bl pa_nil)))))))) pss_nil)
  (pss_cons (ps_if (pt_cmpR op_eq (pe_ix ix_tup (pv 0) pe_int (fun _ _ => rfl)) pe_str (nomark _)) (pss_one (ps_ret (pe_tup (pa_cons (pe_ix ix_tup (pv 2) pe_int (fun _ _ => rfl)) (pa_cons (pe_ix ix_tup (pv 2) pe_int (fun _ _ => rfl)) (pa_cons (pe_ix ix_tup (pv 2) pe_int (fun _ _ => rfl)) (pa_cons (pe_ix ix_tup (pv 2) pe_int (fun _ _ => rfl)) (pa_cons pe_bl pa_nil)))))))) pss_nil)
  (pss_cons (ps_set (i := 3) sc_read_tree.nd rfl (Or.inl rfl) (C8.pe_c c_read_tree hr (by omega) rfl (pa_cons (pe_ix ix_tup (pv 0) pe_int (fun _ _ => rfl)) (pa_cons (pe_op op_add (pv 1) (pe_callB (call_len_seq : CallR _ _ (rLenQ K)) rfl T.b_len (by decide +kernel) (pa_cons (pe_ix ix_tup (pv 2) pe_int (fun _ _ => rfl)) pa_nil))) pa_nil))))
  (pss_cons (ps_if (pt_cmpR op_eq (pe_ix ix_tup (pv 0) pe_int (fun _ _ => rfl)) pe_str (nomark _)) (pss_one (ps_ret (pe_tup (pa_cons (pe_op op_cat (pe_ix ix_tup (pv 2) pe_int (fun _ _ => rfl)) (pe_ix ix_tup (pv 3) pe_int (fun _ _ => rfl))) (pa_cons (pe_op op_cat (pe_ix ix_tup (pv 2) pe_int (fun _ _ => rfl)) (pe_ix ix_tup (pv 3) pe_int (fun _ _ => rfl))) (pa_cons (pe_op op_cat (pe_ix ix_tup (pv 2) pe_int (fun _ _ => rfl)) (pe_ix ix_tup (pv 3) pe_int (fun _ _ => rfl))) (pa_cons (pe_op op_cat (pe_ix ix_tup (pv 2) pe_int (fun _ _ => rfl)) (pe_ix ix_tup (pv 3) pe_int (fun _ _ => rfl))) (pa_cons (pe_or (pe_ix ix_tup (pv 2) pe_int (fun _ _ => rfl)) (pe_one (pe_ix ix_tup (pv 3) pe_int (fun _ _ => rfl)))) pa_nil)))))))) pss_nil)
  (pss_cons (ps_set (i := 4) sc_read_tree.nd rfl (Or.inl rfl) (pe_ifExp (pt_val (pe_ix ix_tup (pv 2) pe_int (fun _ _ => rfl))) (pe_op op_cat (pe_ix ix_tup (pv 2) pe_int (fun _ _ => rfl)) (pe_ix ix_tup (pv 3) pe_int (fun _ _ => rfl))) (pe_ix ix_tup (pv 2) pe_int (fun _ _ => rfl))))
  (pss_cons (ps_set (i := 5) sc_read_tree.nd rfl (Or.inl rfl) (pe_ifExp (pt_val (pe_ix ix_tup (pv 3) pe_int (fun _ _ => rfl))) (pe_op op_cat (pe_ix ix_tup (pv 2) pe_int (fun _ _ => rfl)) (pe_ix ix_tup (pv 3) pe_int (fun _ _ => rfl))) (pe_ix ix_tup (pv 3) pe_int (fun _ _ => rfl))))
  (pss_one (ps_ret (pe_tup (pa_cons (pe_op op_cat (pe_ix ix_tup (pv 2) pe_int (fun _ _ => rfl)) (pe_ix ix_tup (pv 3) pe_int (fun _ _ => rfl))) (pa_cons (pv 4) (pa_cons (pv 5) (pa_cons (pe_op op_cat (pe_op op_cat (pe_ix ix_tup (pv 2) pe_int (fun _ _ => rfl)) (pe_ix ix_tup (pv 3) pe_int (fun _ _ => rfl))) (C8.pe_c c_crossed hr (by omega) rfl (pa_cons (pe_ix ix_tup (pv 2) pe_int (fun _ _ => rfl)) (pa_cons (pe_ix ix_tup (pv 3) pe_int (fun _ _ => rfl)) pa_nil)))) (pa_cons (pe_and (pe_ix ix_tup (pv 2) pe_int (fun _ _ => rfl)) (pe_one (pe_ix ix_tup (pv 3) pe_int (fun _ _ => rfl)))) pa_nil)))))))))))))))), ?_⟩
        refine r_seq ?_
        refine r_ifB false (H1 := H) (fun R' hR' => ?_) ?_
        · walk_at "r"
          refine r_ixT (j := 0) (g0.at ha) rfl ?_
          walk_at "r"
          refine r_eq rfl ?_
          walk_at "r"
          refine r_no (by cases b <;> decide) ?_
          walk_at "r"
          refine r_ixT (j := 0) (g0.at ha) rfl ?_
          walk_at "r"
          refine r_eq rfl ?_
          walk_at "r"
          have e : decide (V.str (oneS b) = V.str (Str.ofString "none")) = false := by cases b <;> decide
          rw [e]
          exact hR'
        walk_at "r"
        refine r_ixT (j := 1) (g0.at ha) rfl ?_
        walk_at "r"
        refine ⟨x, k, t1, G, rfl, g0.gh, hx, by omega, by omega, by omega, fun q1 G2 H2 e2 hm => ?_⟩
        have g := g0.trans e2
        obtain ⟨x1, f1, l1, pa, vs, ws, m0, m1, m2, m3, m4, m5, m6⟩ := hm.ex
        obtain ⟨z1, z2⟩ := readT_sizes t1 k
        have z3 := readT_pairs6 (t := t1) (k := k) (by omega) (by omega)
        have z4 := readT_atoms t1 k
        have lv1 := m2.1
        have lw1 := m6.1
        walk_at "r"
        refine r_ixT (j := 0) (g.at (g.gg _ _ ha)) rfl ?_
        walk_at "r"
        refine r_eq rfl ?_
        walk_at "r"
        cases b with
        | true =>
          refine r_yes (by decide) ?_
          walk_at "r"
          refine r_ixT (j := 0) (g.at m0) rfl ?_
          walk_at "r"
          refine r_ixT (j := 1) (g.at m0) rfl ?_
          walk_at "r"
          refine r_ixT (j := 2) (g.at m0) rfl ?_
          walk_at "r"
          refine r_ixT (j := 3) (g.at m0) rfl ?_
          walk_at "r"
          refine r_ixT (j := 2) (g.at m0) rfl ?_
          walk_at "r"
          refine r_ixT (j := 1) (g.at m0) rfl ?_
          walk_at "r"
          refine ⟨l1, f1, _, _, G2, rfl, g.gh, m4, m3, by omega, by omega, fun q4 ws4 G4 H4 e4 hq4 hw4 => ?_⟩
          have g := g.trans e4
          refine e_cat g.gh (e4.gg _ _ m5) hq4 ?_ fun q5 G5 H5 e5 hq5 _ => ?_
          · rw [m6.1, hw4.1, crossedL_len]
            have c : (readT t1 k).lasts.length * (readT t1 k).firsts.length ≤ 20 * 20 := Nat.mul_le_mul (by omega) (by omega)
            omega
          have g := g.trans e5
          walk_at "r"
          refine e_tup g.gh rfl fun p6 G6 H6 e6 hp6 _ => ?_
          have s6 := (e4.gg.trans e5.gg).trans e6.gg
          refine q p6 G6 H6 (g.trans e6) ⟨x1, f1, l1, q5, vs, _, hp6, s6 _ _ m1, m2.mono fun _ _ => AtomP.mono s6, s6 _ _ m3, s6 _ _ m4, e6.gg _ _ hq5, ?_⟩
          exact (m6.mono fun _ _ => PairV.mono s6).app (hw4.mono fun _ _ => PairV.mono (e5.gg.trans e6.gg))
        | false =>
          refine r_no (by decide) ?_
          walk_at "r"
          refine r_ixT (j := 0) (g.at (g.gg _ _ ha)) rfl ?_
          walk_at "r"
          refine r_eq rfl ?_
          walk_at "r"
          refine r_yes (by decide) ?_
          walk_at "r"
          refine r_ixT (j := 0) (g.at m0) rfl ?_
          walk_at "r"
          refine r_ixT (j := 1) (g.at m0) rfl ?_
          walk_at "r"
          refine r_ixT (j := 2) (g.at m0) rfl ?_
          walk_at "r"
          refine r_ixT (j := 3) (g.at m0) rfl ?_
          walk_at "r"
          refine e_tup g.gh rfl fun p6 G6 H6 e6 hp6 _ => ?_
          have s6 := e6.gg
          exact q p6 G6 H6 (g.trans e6) ⟨x1, f1, l1, pa, vs, _, hp6, s6 _ _ m1, m2.mono fun _ _ => AtomP.mono s6, s6 _ _ m3, s6 _ _ m4, s6 _ _ m5, m6.mono fun _ _ => PairV.mono s6⟩
      · obtain ⟨ol, od⟩ := PTree.leaves_two b t1 t2
        refine ⟨_, (pss_cons (ps_if (PW.pt (pw_or (pt_cmpR op_eq (pe_ix ix_tup (pv 0) pe_int (fun _ _ => rfl)) pe_str (nomark _)) (pw_or1 (pt_cmpR op_eq (pe_ix ix_tup (pv 0) pe_int (fun _ _ => rfl)) pe_str (nomark _))))) (pss_one (ps_ret (pe_tup (pa_cons (pe_lst (pa_cons (pe_tup (pa_cons (pe_cmpR op_eq (pe_ix ix_tup (pv 0) pe_int (fun _ _ => rfl)) pe_str (nomark _)) (pa_cons (pe_ix ix_tup (pv 0) pe_int (fun _ _ => rfl)) pa_nil))) pa_nil)) (pa_cons (pe_lst (pa_cons (pv 1) pa_nil)) (pa_cons (pe_lst (pa_cons (pv 1) pa_nil)) (pa_cons (pe_lst pa_nil) (pa_cons pe_bl pa_nil)))))))) pss_nil)
  (pss_cons (ps_set (i := 2) sc_read_tree.nd rfl (Or.inl rfl) (C8.pe_c c_read_tree hr (by omega) rfl (pa_cons (pe_ix ix_tup (pv 0) pe_int (fun _ _ => rfl)) (pa_cons (pv 1) pa_nil))))
  (pss_cons (ps_if (pt_cmpR op_eq (pe_ix ix_tup (pv 0) pe_int (fun _ _ => rfl)) pe_str (nomark _)) (pss_one (ps_ret (pe_tup (pa_cons (pe_ix ix_tup (pv 2) pe_int (fun _ _ => rfl)) (pa_cons (pe_ix ix_tup (pv 2) pe_int (fun _ _ => rfl)) (pa_cons (pe_ix ix_tup (pv 2) pe_int (fun _ _ => rfl)) (pa_cons (pe_op op_cat (pe_ix ix_tup (pv 2) pe_int (fun _ _ => rfl)) (C8.pe_c c_crossed hr (by omega) rfl (pa_cons (pe_ix ix_tup (pv 2) pe_int (fun _ _ => rfl)) (pa_cons (pe_ix ix_tup (pv 2) pe_int (fun _ _ => rfl)) pa_nil)))) (pa_cons pe_bl pa_nil)))))))) pss_nil)
  (pss_cons (ps_if (pt_cmpR op_eq (pe_ix ix_tup (pv 0) pe_int (fun _ _ => rfl)) pe_str (nomark _)) (pss_one (ps_ret (pe_tup (pa_cons (pe_ix ix_tup (pv 2) pe_int (fun _ _ => rfl)) (pa_cons (pe_ix ix_tup (pv 2) pe_int (fun _ _ => rfl)) (pa_cons (pe_ix ix_tup (pv 2) pe_int (fun _ _ => rfl)) (pa_cons (pe_ix ix_tup (pv 2) pe_int (fun _ _ => rfl)) (pa_cons pe_bl pa_nil)))))))) pss_nil)
  (pss_cons (ps_set (i := 3) sc_read_tree.nd rfl (Or.inl rfl) (C8.pe_c c_read_tree hr (by omega) rfl (pa_cons (pe_ix ix_tup (pv 0) pe_int (fun _ _ => rfl)) (pa_cons (pe_op op_add (pv 1) (pe_callB (call_len_seq : CallR _ _ (rLenQ K)) rfl T.b_len (by decide +kernel) (pa_cons (pe_ix ix_tup (pv 2) pe_int (fun _ _ => rfl)) pa_nil))) pa_nil))))
  (pss_cons (ps_if (pt_cmpR op_eq (pe_ix ix_tup (pv 0) pe_int (fun _ _ => rfl)) pe_str (nomark _)) (pss_one (ps_ret (pe_tup (pa_cons (pe_op op_cat (pe_ix ix_tup (pv 2) pe_int (fun _ _ => rfl)) (pe_ix ix_tup (pv 3) pe_int (fun _ _ => rfl))) (pa_cons (pe_op op_cat (pe_ix ix_tup (pv 2) pe_int (fun _ _ => rfl)) (pe_ix ix_tup (pv 3) pe_int (fun _ _ => rfl))) (pa_cons (pe_op op_cat (pe_ix ix_tup (pv 2) pe_int (fun _ _ => rfl)) (pe_ix ix_tup (pv 3) pe_int (fun _ _ => rfl))) (pa_cons (pe_op op_cat (pe_ix ix_tup (pv 2) pe_int (fun _ _ => rfl)) (pe_ix ix_tup (pv 3) pe_int (fun _ _ => rfl))) (pa_cons (pe_or (pe_ix ix_tup (pv 2) pe_int (fun _ _ => rfl)) (pe_one (pe_ix ix_tup (pv 3) pe_int (fun _ _ => rfl)))) pa_nil)))))))) pss_nil)
  (pss_cons (ps_set (i := 4) sc_read_tree.nd rfl (Or.inl rfl) (pe_ifExp (pt_val (pe_ix ix_tup (pv 2) pe_int (fun _ _ => rfl))) (pe_op op_cat (pe_ix ix_tup (pv 2) pe_int (fun _ _ => rfl)) (pe_ix ix_tup (pv 3) pe_int (fun _ _ => rfl))) (pe_ix ix_tup (pv 2) pe_int (fun _ _ => rfl))))
  (pss_cons (ps_set (i := 5) sc_read_tree.nd rfl (Or.inl rfl) (pe_ifExp (pt_val (pe_ix ix_tup (pv 3) pe_int (fun _ _ => rfl))) (pe_op op_cat (pe_ix ix_tup (pv 2) pe_int (fun _ _ => rfl)) (pe_ix ix_tup (pv 3) pe_int (fun _ _ => rfl))) (pe_ix ix_tup (pv 3) pe_int (fun _ _ => rfl))))
  (pss_one (ps_ret (pe_tup (pa_cons (pe_op op_cat (pe_ix ix_tup (pv 2) pe_int (fun _ _ => rfl)) (pe_ix ix_tup (pv 3) pe_int (fun _ _ => rfl))) (pa_cons (pv 4) (pa_cons (pv 5) (pa_cons (pe_op op_cat (pe_op op_cat (pe_ix ix_tup (pv 2) pe_int (fun _ _ => rfl)) (pe_ix ix_tup (pv 3) pe_int (fun _ _ => rfl))) (C8.pe_c c_crossed hr (by omega) rfl (pa_cons (pe_ix ix_tup (pv 2) pe_int (fun _ _ => rfl)) (pa_cons (pe_ix ix_tup (pv 3) pe_int (fun _ _ => rfl)) pa_nil)))) (pa_cons (pe_and (pe_ix ix_tup (pv 2) pe_int (fun _ _ => rfl)) (pe_one (pe_ix ix_tup (pv 3) pe_int (fun _ _ => rfl)))) pa_nil)))))))))))))))), ?_⟩
        refine r_seq ?_
        refine r_ifB false (H1 := H) (fun R' hR' => ?_) ?_
        · walk_at "r"
          refine r_ixT (j := 0) (g0.at ha) rfl ?_
          walk_at "r"
          refine r_eq rfl ?_
          walk_at "r"
          refine r_no (by cases b <;> decide) ?_
          walk_at "r"
          refine r_ixT (j := 0) (g0.at ha) rfl ?_
          walk_at "r"
          refine r_eq rfl ?_
          walk_at "r"
          have e : decide (V.str (twoS b) = V.str (Str.ofString "none")) = false := by cases b <;> decide
          rw [e]
          exact hR'
        walk_at "r"
        refine r_ixT (j := 1) (g0.at ha) rfl ?_
        walk_at "r"
        refine ⟨x, k, t1, G, rfl, g0.gh, hx, by omega, by omega, by omega, fun q1 G2 H2 e2 hm => ?_⟩
        have g := g0.trans e2
        obtain ⟨x1, f1, l1, pa, vs, ws, m0, m1, m2, m3, m4, m5, m6⟩ := hm.ex
        obtain ⟨z1, z2⟩ := readT_sizes t1 k
        have z3 := readT_pairs6 (t := t1) (k := k) (by omega) (by omega)
        have z4 := readT_atoms t1 k
        have lv1 := m2.1
        have lw1 := m6.1
        walk_at "r"
        refine r_ixT (j := 0) (g.at (g.gg _ _ ha)) rfl ?_
        walk_at "r"
        refine r_eq rfl ?_
        walk_at "r"
        refine r_no (by cases b <;> decide) ?_
        walk_at "r"
        refine r_ixT (j := 0) (g.at (g.gg _ _ ha)) rfl ?_
        walk_at "r"
        refine r_eq rfl ?_
        walk_at "r"
        refine r_no (by cases b <;> decide) ?_
        walk_at "r"
        refine r_ixT (j := 2) (g.at (g.gg _ _ ha)) rfl ?_
        walk_at "r"
        refine r_ixT (j := 0) (g.at m0) rfl ?_
        walk_at "r"
        refine r_lenQL (g.at m1) ?_
        walk_at "r"
        refine ⟨y, k + (readT t1 k).atoms.length, t2, G2, by rw [m2.1]; rfl, g.gh, hy.mono g.gg, by omega, by omega, by omega, fun q2 G4 H4 e4 hm2 => ?_⟩
        have g := g.trans e4
        obtain ⟨x2, f2, l2, pb, vs2, ws2, n0, n1, n2, n3, n4, n5, n6⟩ := hm2.ex
        obtain ⟨y1, y2⟩ := readT_sizes t2 (k + (readT t1 k).atoms.length)
        have y3 := readT_pairs6 (t := t2) (k := k + (readT t1 k).atoms.length) (by omega) (by omega)
        have y4 := readT_atoms t2 (k + (readT t1 k).atoms.length)
        have s4 := e4.gg
        have lv2 := n2.1
        have lw2 := n6.1
        generalize hA : readT t1 k = A1 at *
        generalize hB : readT t2 (k + A1.atoms.length) = A2 at *
        walk_at "r"
        refine r_ixT (j := 0) (g.at (g.gg _ _ ha)) rfl ?_
        walk_at "r"
        refine r_eq rfl ?_
        walk_at "r"
        cases b with
        | true =>
          refine r_yes (by decide) ?_
          walk_at "r"
          refine r_ixT (j := 0) (g.at (s4 _ _ m0)) rfl ?_
          walk_at "r"
          refine r_ixT (j := 0) (g.at n0) rfl ?_
          refine e_cat g.gh (s4 _ _ m1) n1 (by omega) fun c1 G5 H5 e5 hc1 _ => ?_
          have g := g.trans e5
          have s5 := s4.trans e5.gg
          walk_at "r"
          refine r_ixT (j := 1) (g.at (s5 _ _ m0)) rfl ?_
          walk_at "r"
          refine r_ixT (j := 1) (g.at (e5.gg _ _ n0)) rfl ?_
          refine e_cat g.gh (s5 _ _ m3) (e5.gg _ _ n3) (by rw [List.length_map, List.length_map]; omega) fun c2 G6 H6 e6 hc2 _ => ?_
          have g := g.trans e6
          have s6 := s5.trans e6.gg
          have r6 := e5.gg.trans e6.gg
          walk_at "r"
          refine r_ixT (j := 2) (g.at (s6 _ _ m0)) rfl ?_
          walk_at "r"
          refine r_ixT (j := 2) (g.at (r6 _ _ n0)) rfl ?_
          refine e_cat g.gh (s6 _ _ m4) (r6 _ _ n4) (by rw [List.length_map, List.length_map]; omega) fun c3 G7 H7 e7 hc3 _ => ?_
          have g := g.trans e7
          have s7 := s6.trans e7.gg
          have r7 := r6.trans e7.gg
          walk_at "r"
          refine r_ixT (j := 3) (g.at (s7 _ _ m0)) rfl ?_
          walk_at "r"
          refine r_ixT (j := 3) (g.at (r7 _ _ n0)) rfl ?_
          refine e_cat g.gh (s7 _ _ m5) (r7 _ _ n5) (by omega) fun c4 G8 H8 e8 hc4 _ => ?_
          have g := g.trans e8
          have s8 := s7.trans e8.gg
          have r8 := r7.trans e8.gg
          have fin : ∀ p9 G9 H9, Grow no G8 H8 G9 H9 → G9 p9 = some (.tup [.ref c1, .ref c2, .ref c3, .ref c4, .bl (A1.opt || A2.opt)]) → Q (.ref p9) H9 := fun p9 G9 H9 e9 hp9 => by
            refine q p9 G9 H9 (g.trans e9) ?_
            have el : readT (PTree.two true t1 t2) k = ⟨A1.atoms ++ A2.atoms, A1.firsts ++ A2.firsts, A1.lasts ++ A2.lasts, A1.pairs ++ A2.pairs, A1.opt || A2.opt⟩ := by
              show (ML.mk _ _ _ _ _ : ML Str) = _
              rw [hA, hB]
            rw [el]
            have t9 := e9.gg
            have t8 := e8.gg.trans t9
            have t7 := e7.gg.trans t8
            have t6 := e6.gg.trans t7
            have s9 := s8.trans t9
            have r9 := r8.trans t9
            refine ⟨c1, c2, c3, c4, _, _, hp9, t6 _ _ hc1, (m2.mono fun _ _ => AtomP.mono s9).app (n2.mono fun _ _ => AtomP.mono r9), ?_, ?_, t9 _ _ hc4, (m6.mono fun _ _ => PairV.mono s9).app (n6.mono fun _ _ => PairV.mono r9)⟩
            · rw [NatL, List.map_append]; exact t7 _ _ hc2
            · rw [NatL, List.map_append]; exact t8 _ _ hc3
          walk_at "r"
          refine r_ixT (j := 4) (g.at (s8 _ _ m0)) rfl ?_
          walk_at "r"
          cases ho : A1.opt with
          | true =>
            walk_at "r"
            refine e_tup g.gh rfl fun p9 G9 H9 e9 hp9 _ => fin p9 G9 H9 e9 (by rw [ho]; exact hp9)
          | false =>
            walk_at "r"
            refine r_ixT (j := 4) (g.at (r8 _ _ n0)) rfl ?_
            walk_at "r"
            refine e_tup g.gh rfl fun p9 G9 H9 e9 hp9 _ => fin p9 G9 H9 e9 (by rw [ho]; exact hp9)
        | false =>
          refine r_no (by decide) ?_
          refine r_next ?_
          with_reducible show tSeq _ _ _ _ _
          refine r_seqC (fun σ H' => ∃ (c : Addr) (G' : Hp), Grow no G4 H4 G' H' ∧ NatL G' c (if A1.opt = true then A1.firsts ++ A2.firsts else A1.firsts) ∧ σ = [some (.ref a), some (.int (k : Nat)), some (.ref q1), some (.ref q2), some (.ref c), none]) ?_ ?_
          · rintro σ H5 ⟨c2, G5, e5, hc2, rfl⟩
            have g := g.trans e5
            have s5 := s4.trans e5.gg
            have r5 := e5.gg
            with_reducible show tSeq _ _ _ _ _
            refine r_seqC (fun σ H' => ∃ (c : Addr) (G' : Hp), Grow no G5 H5 G' H' ∧ NatL G' c (if A2.opt = true then A1.lasts ++ A2.lasts else A2.lasts) ∧ σ = [some (.ref a), some (.int (k : Nat)), some (.ref q1), some (.ref q2), some (.ref c2), some (.ref c)]) ?_ ?_
            · rintro σ H6 ⟨c3, G6, e6, hc3, rfl⟩
              have g := g.trans e6
              have s6 := s5.trans e6.gg
              have r6 := r5.trans e6.gg
              walk_at "r"
              refine r_ixT (j := 0) (g.at (s6 _ _ m0)) rfl ?_
              walk_at "r"
              refine r_ixT (j := 0) (g.at (r6 _ _ n0)) rfl ?_
              refine e_cat g.gh (s6 _ _ m1) (r6 _ _ n1) (by omega) fun c1 G7 H7 e7 hc1 _ => ?_
              have g := g.trans e7
              have s7 := s6.trans e7.gg
              have r7 := r6.trans e7.gg
              walk_at "r"
              refine r_ixT (j := 3) (g.at (s7 _ _ m0)) rfl ?_
              walk_at "r"
              refine r_ixT (j := 3) (g.at (r7 _ _ n0)) rfl ?_
              refine e_cat g.gh (s7 _ _ m5) (r7 _ _ n5) (by omega) fun d1 G8 H8 e8 hd1 _ => ?_
              have g := g.trans e8
              have s8 := s7.trans e8.gg
              have r8 := r7.trans e8.gg
              walk_at "r"
              refine r_ixT (j := 2) (g.at (s8 _ _ m0)) rfl ?_
              walk_at "r"
              refine r_ixT (j := 1) (g.at (r8 _ _ n0)) rfl ?_
              walk_at "r"
              refine ⟨l1, f2, _, _, G8, rfl, g.gh, s8 _ _ m4, r8 _ _ n3, by omega, by omega, fun d2 ws4 G9 H9 e9 hd2 hw4 => ?_⟩
              have g := g.trans e9
              have s9 := s8.trans e9.gg
              have r9 := r8.trans e9.gg
              refine e_cat g.gh (e9.gg _ _ hd1) hd2 ?_ fun c4 GA HA ea hc4 _ => ?_
              · rw [List.length_append, hw4.1, crossedL_len]
                have c : A1.lasts.length * A2.firsts.length ≤ 20 * 20 := Nat.mul_le_mul (by omega) (by omega)
                omega
              have g := g.trans ea
              have sa := s9.trans ea.gg
              have ra := r9.trans ea.gg
              have fin : ∀ p9 GB HB, Grow no GA HA GB HB → GB p9 = some (.tup [.ref c1, .ref c2, .ref c3, .ref c4, .bl (A1.opt && A2.opt)]) → Q (.ref p9) HB := fun p9 GB HB eb hp9 => by
                refine q p9 GB HB (g.trans eb) ?_
                have el : readT (PTree.two false t1 t2) k = ⟨A1.atoms ++ A2.atoms, if A1.opt = true then A1.firsts ++ A2.firsts else A1.firsts, if A2.opt = true then A1.lasts ++ A2.lasts else A2.lasts, A1.pairs ++ A2.pairs ++ crossedL A1.lasts A2.firsts, A1.opt && A2.opt⟩ := by
                  show (ML.mk _ _ _ _ _ : ML Str) = _
                  rw [hA, hB]
                rw [el]
                have tb := eb.gg
                have ta := ea.gg.trans tb
                have t9 := e9.gg.trans ta
                have t8 := e8.gg.trans t9
                have t7 := e7.gg.trans t8
                have t6 := e6.gg.trans t7
                have sb := sa.trans tb
                have rb := ra.trans tb
                exact ⟨c1, c2, c3, c4, _, _, hp9, t8 _ _ hc1, (m2.mono fun _ _ => AtomP.mono sb).app (n2.mono fun _ _ => AtomP.mono rb), t6 _ _ hc2, t7 _ _ hc3, tb _ _ hc4, ((m6.mono fun _ _ => PairV.mono sb).app (n6.mono fun _ _ => PairV.mono rb)).app (hw4.mono fun _ _ => PairV.mono ta)⟩
              walk_at "r"
              refine r_ixT (j := 4) (g.at (sa _ _ m0)) rfl ?_
              walk_at "r"
              cases ho : A1.opt with
              | false =>
                walk_at "r"
                refine e_tup g.gh rfl fun p9 G9 H9 e9 hp9 _ => fin p9 G9 H9 e9 (by rw [ho]; exact hp9)
              | true =>
                walk_at "r"
                refine r_ixT (j := 4) (g.at (ra _ _ n0)) rfl ?_
                walk_at "r"
                refine e_tup g.gh rfl fun p9 G9 H9 e9 hp9 _ => fin p9 G9 H9 e9 (by rw [ho]; exact hp9)
            · intro R hR
              walk_at "r"
              refine r_ixT (j := 4) (g.at (r5 _ _ n0)) rfl ?_
              walk_at "r"
              cases ho : A2.opt with
              | true =>
                walk_at "r"
                refine r_ixT (j := 2) (g.at (s5 _ _ m0)) rfl ?_
                walk_at "r"
                refine r_ixT (j := 2) (g.at (r5 _ _ n0)) rfl ?_
                refine e_cat g.gh (s5 _ _ m4) (r5 _ _ n4) (by rw [List.length_map, List.length_map]; omega) fun c3 G6 H6 e6 hc3 _ => ?_
                walk_at "r"
                refine hR _ _ ⟨c3, G6, e6, ?_, rfl⟩
                rw [if_pos ho, NatL, List.map_append]
                exact hc3
              | false =>
                walk_at "r"
                refine r_ixT (j := 2) (g.at (r5 _ _ n0)) rfl ?_
                walk_at "r"
                refine hR _ _ ⟨l2, G5, Grow.refl g.gh, ?_, rfl⟩
                rw [if_neg (by rw [ho]; decide)]
                exact r5 _ _ n4
          · intro R hR
            walk_at "r"
            refine r_ixT (j := 4) (g.at (s4 _ _ m0)) rfl ?_
            walk_at "r"
            cases ho : A1.opt with
            | true =>
              walk_at "r"
              refine r_ixT (j := 1) (g.at (s4 _ _ m0)) rfl ?_
              walk_at "r"
              refine r_ixT (j := 1) (g.at n0) rfl ?_
              refine e_cat g.gh (s4 _ _ m3) n3 (by rw [List.length_map, List.length_map]; omega) fun c2 G6 H6 e6 hc2 _ => ?_
              walk_at "r"
              refine hR _ _ ⟨c2, G6, e6, ?_, rfl⟩
              rw [if_pos ho, NatL, List.map_append]
              exact hc2
            | false =>
              walk_at "r"
              refine r_ixT (j := 1) (g.at (s4 _ _ m0)) rfl ?_
              walk_at "r"
              refine hR _ _ ⟨f1, G4, Grow.refl g.gh, ?_, rfl⟩
              rw [if_neg (by rw [ho]; decide)]
              exact s4 _ _ m3
end
end K48
/-! ## KD18 -/
set_option maxHeartbeats 4000000
namespace K48
open PySem L2
local macro_rules | `(tactic| walk_at "r1") => `(tactic| first
  | with_reducible refine r_seq ?_ | with_reducible refine r_asg ?_ | with_reducible refine r_ret ?_ | with_reducible refine r_drop ?_ | with_reducible refine r_if ?_ | with_reducible refine r_next ?_
  | with_reducible refine r_name ?_ | with_reducible refine r_c ?_ | ((with_reducible show tVar _ _ _ _); refine r_var rfl ?_) | with_reducible refine r_op ?_ | with_reducible refine r_un ?_
  | with_reducible refine r_i0 ?_ | with_reducible refine r_test ?_ | with_reducible refine r_tB ?_ | with_reducible refine r_bl ?_ | with_reducible refine r_and ?_ | with_reducible refine r_or ?_
  | with_reducible refine r_not ?_ | with_reducible refine r_ifE ?_ | with_reducible refine r_cons ?_ | with_reducible refine r_nil ?_ | with_reducible refine r_cb ?_ | with_reducible refine r_call ?_
  | with_reducible refine r_lstG ?_ | with_reducible refine r_tupG ?_ | with_reducible refine r_sl ?_ | with_reducible refine r_noP ?_ | with_reducible refine r_part ?_ | with_reducible refine r_exI ?_
  | with_reducible refine r_tr ?_ | with_reducible refine r_fa ?_ | with_reducible refine r_for ?_ | with_reducible refine r_iList ?_ | with_reducible refine r_iTup ?_ | with_reducible refine r_iStr ?_
  | with_reducible refine r_iR1 ?_ | with_reducible refine r_iR2 ?_ | with_reducible refine r_lc ?_ | with_reducible refine r_nt ?_ | with_reducible refine r_nf ?_ | with_reducible refine r_orV ?_ | with_reducible refine r_andV ?_ | with_reducible refine r_yesT ?_ | with_reducible refine r_gsub ?_ | with_reducible refine r_gcons ?_ | with_reducible refine r_gnil ?_ | with_reducible refine r_bm ?_ | with_reducible refine r_bm0 ?_
  | with_reducible refine r_fldG ?_ | with_reducible refine r_sfldG ?_ | with_reducible refine r_meth ?_ | with_reducible refine r_make ?_ | with_reducible refine r_dget ?_ | with_reducible refine r_din ?_ | with_reducible refine r_dnin ?_ | with_reducible refine r_dput ?_
  | with_reducible refine r_dgetN ?_ | with_reducible refine r_dinN ?_ | with_reducible refine r_dninN ?_ | with_reducible refine r_dputN ?_ | ((with_reducible show tAug _ _ _ _ _ _); refine r_aug rfl ?_) | with_reducible refine r_par ?_ | with_reducible refine r_neg ?_ | with_reducible refine r_iEnum ?_ | with_reducible refine r_iZip ?_ | with_reducible refine r_iZipA ?_)
local macro_rules | `(tactic| walk_at "r") => `(tactic| repeat walk_at "r1")

def spMInit (CM : Addr) : Sp := fun vs H Q _ => ∃ (x a f l d dx : Addr) (b : Bool), vs = [.ref x, .ref a, .ref f, .ref l, .ref d, .bl b] ∧ H x = some (.ins CM dx []) ∧
  ∀ (H' : Hp) (fs : List (Str × V)), H' x = some (.ins CM dx fs) → (∀ r, r ≠ x → H' r = H r) → fld fs "atoms" = some (.ref a) → fld fs "firsts" = some (.ref f) → fld fs "lasts" = some (.ref l) → fld fs "pairs" = some (.ref d) → fld fs "is_optional" = some (.bl b) →
    (∀ z ∈ (["takes", "begun", "is_done", "is_behind"] : List Str), fs.lookup z = none) → Q .non H'
def spMade (CM : Addr) (D : Nat) : Sp := fun vs H Q _ => ∃ (v : V) (t : PTree Str) (G : Hp), vs = [v] ∧ Same G H ∧ TreeAt G false t v ∧ t.depth < D ∧ t.depth ≤ 6 ∧ t.leaves ≤ 20 ∧ ∀ (q : Addr) (G' H' : Hp), Grow no G H G' H' → MachP CM G' q (readT t 0) → Q (.ref q) H'
section
variable {P : Program} {w : World} {K : PySem.W.Frag} {mg : Str → Option Value} {base : Heap} {CM : Addr}
abbrev st_Machine_init : Stmt := inClass (topS 14) 0
abbrev N_Machine_init : List Str := ["self", "atoms", "firsts", "lasts", "pairs", "is_optional"]
theorem sc_Machine_init : FnScope N_Machine_init ["self", "atoms", "firsts", "lasts", "pairs", "is_optional"] (defScope st_Machine_init) := ⟨rfl, rfl, rfl, by decide +kernel, rfl, by decide +kernel, by decide +kernel⟩
theorem ok_Machine_init (T : Top K mg) (cM : CF K CM machF) (F : In K mg "Machine" CM "Machine.__init__" st_Machine_init) : C8.Mak P w K mg base 1 "Machine" CM (spMInit CM) [] := by
  refine F.mak sc_Machine_init (fun vs H Q E h => ?_) (fun _ _ _ _ _ _ us hl => match us, hl with | [_, _, _, _, _, _], _ => rfl) (fun f cdv A outer s H vs Q E hr h => ?_)
  · obtain ⟨x, a, f, l, d, dx, b, rfl, _⟩ := h
    rfl
  · obtain ⟨x, a, f, l, d, dx, b, rfl, hx, k⟩ := h
    refine ⟨_, (pss_cons (ps_fld (pv 0) (pv 1) rfl)
  (pss_cons (ps_fld (pv 0) (pv 2) rfl)
  (pss_cons (ps_fld (pv 0) (pv 3) rfl)
  (pss_cons (ps_fld (pv 0) (pv 4) rfl)
  (pss_one (ps_fld (pv 0) (pv 5) rfl)))))), ?_⟩
    walk_at "r"
    refine r_setf cM (by decide) hx rfl fun H1 h1 n1 => ?_
    walk_at "r"
    refine r_setf cM (by decide) h1 rfl fun H2 h2 n2 => ?_
    walk_at "r"
    refine r_setf cM (by decide) h2 rfl fun H3 h3 n3 => ?_
    walk_at "r"
    refine r_setf cM (by decide) h3 rfl fun H4 h4 n4 => ?_
    walk_at "r"
    refine r_setf cM (by decide) h4 rfl fun H5 h5 n5 => ?_
    refine k H5 _ h5 (fun r hr => by rw [n5 r hr, n4 r hr, n3 r hr, n2 r hr, n1 r hr]) rfl rfl rfl rfl rfl (fun z hz => ?_)
    rcases List.mem_cons.mp hz with rfl | hz
    · rfl
    rcases List.mem_cons.mp hz with rfl | hz
    · rfl
    rcases List.mem_cons.mp hz with rfl | hz
    · rfl
    rw [List.mem_singleton.mp hz]
    rfl
def makeQ (C : Addr) (sp : Sp) (E : XK) (Q : VK) (vs : List V) (H1 : Hp) : Prop := ∀ x dx, H1 x = none → H1 dx = none → dx ≠ x → sp (.ref x :: vs) (upd (upd H1 dx (.own x)) x (.ins C dx [])) (fun v H2 => v = .non ∧ Q (.ref x) H2) E
/-- an instance is made: in heap and ghost at once -/
theorem e_make {C : Addr} {sp : Sp} {E : XK} {Q : VK} {vs : List V} {G1 H1 : Hp} (s : Same G1 H1) (k : ∀ x dx H2, Same H1 H2 → H1 x = none → G1 x = none → H2 x = some (.ins C dx []) → sp (.ref x :: vs) H2 (fun v H3 => v = .non ∧ Q (.ref x) H3) E) : ∀ x dx, H1 x = none → H1 dx = none → dx ≠ x → sp (.ref x :: vs) (upd (upd H1 dx (.own x)) x (.ins C dx [])) (fun v H2 => v = .non ∧ Q (.ref x) H2) E :=
  fun x dx hx hd hne => k x dx _ ((same_upd hd).trans (same_upd (by rw [upd_ne (Ne.symm hne)]; exact hx))) hx (by
    cases e : G1 x with
    | none => rfl
    | some u => rw [s _ _ e] at hx; cases hx) upd_same
/-- what was made is changed at its own place alone, and told -/
theorem made_grow {G1 H1 H2 H3 : Hp} {x : Addr} {o : HO} (s : Same G1 H1) (s2 : Same H1 H2) (hx : H1 x = none) (h3 : H3 x = some o) (hr : ∀ r, r ≠ x → H3 r = H2 r) : Grow no G1 H1 (upd G1 x o) H3 := by
  have gx : G1 x = none := by
    cases e : G1 x with
    | none => rfl
    | some u => rw [s _ _ e] at hx; cases hx
  have g := ((Grow.refl s (m := no)).heap s2).chg gx hx hr
  exact g.tell h3 hx
abbrev st_made_machine : Stmt := topS 15
abbrev N_made_machine : List Str := ["tree", "atoms", "firsts", "lasts", "pairs", "is_optional", "pair"]
theorem sc_made_machine : FnScope N_made_machine ["tree"] (defScope st_made_machine) := ⟨rfl, rfl, rfl, by decide +kernel, rfl, by decide +kernel, by decide +kernel⟩
theorem ok_made_machine (T : Top K mg) (cM : CF K CM machF) (F : Dn K mg "made_machine" st_made_machine) {D : Nat} (c_read_tree : Cal P w K mg base (D + 2) "read_tree" (spReadT D)) (c_Machine : C8.Mak P w K mg base 1 "Machine" CM (spMInit CM) []) : Cal P w K mg base (D + 3) "made_machine" (spMade CM D) := by
  refine F.cal sc_made_machine (fun vs H Q E h => ?_) (fun _ _ _ _ _ _ us hl => match us, hl with | [_], _ => rfl) (fun f cdv A outer s H vs Q E hr h => ?_)
  · obtain ⟨v, t, G, rfl, _⟩ := h
    rfl
  · obtain ⟨v, t, G, rfl, sg, ht, hd, hd6, hl, k⟩ := h
    refine ⟨_, (pss_cons (ps_asg (C8.pe_c c_read_tree hr (by omega) rfl (pa_cons (pv 0) (pa_cons pe_int pa_nil))) (pg_tup rfl (pgs_cons (pg_name (i := 1) sc_made_machine.nd rfl (Or.inl rfl)) (pgs_cons (pg_name (i := 2) sc_made_machine.nd rfl (Or.inl rfl)) (pgs_cons (pg_name (i := 3) sc_made_machine.nd rfl (Or.inl rfl)) (pgs_cons (pg_name (i := 4) sc_made_machine.nd rfl (Or.inl rfl)) (pgs_cons (pg_name (i := 5) sc_made_machine.nd rfl (Or.inl rfl)) pgs_nil)))))))
  (pss_one (ps_ret (C8.pe_mk c_Machine hr (by omega) rfl (pa_cons (pv 1) (pa_cons (pv 2) (pa_cons (pv 3) (pa_cons (pe_dcT (own := [("pair", 6)]) (g := (gName 6)) (tt := tYes) (hu1 hr) rfl sc_made_machine.nd (pi_list (pv 4)) (blkOk_by (N := N_made_machine) (sc := defScope st_made_machine) (by decide +kernel)) (fun _ _ _ _ _ => (pg_name (i := 6) sc_made_machine.nd rfl (Or.inl rfl))) (fun _ _ _ _ _ => pts_nil) (fun _ _ _ _ _ => (pv 6)) (fun _ _ _ _ _ => pe_bl)) (pa_cons (pv 5) pa_nil))))))))), ?_⟩
    walk_at "r"
    refine ⟨v, 0, t, G, rfl, sg, ht, hd, hd6, hl, fun q G1 H1 g hm => ?_⟩
    obtain ⟨x1, f1, l1, pa, vs, ws, m0, m1, m2, m3, m4, m5, m6⟩ := hm.ex
    have hwl : ws.length ≤ 25600 := by rw [m6.1]; exact readT_pairs6 hl hd6
    refine r_gtup (g.at m0) rfl ?_
    walk_at "r"
    show iList _ (tVar 4) _ _ fun J H1 => ∀ D, H1 D = none → _
    refine r_iList ?_
    walk_at "r"
    refine ⟨pa, rfl, ⟨_, .inl (.inl (g.at m5))⟩, fun Dl hD => ?_⟩
    have hD0 := g.freeN hD
    have hDG := g.free1 hD
    refine lcx_it (walk_list (xs := ws)) (fun i H' => ∃ kvs : List (List Key × V), Same H1 H' ∧ H' Dl = some (.dT kvs) ∧ kvs.length ≤ i ∧ ∀ x y : Nat, (valV kvs [.inl (x : Int), .inl (y : Int)]).isSome = decide ((x, y) ∈ (readT t 0).pairs.take i)) ⟨[], same_upd hD, upd_same, Nat.le_refl _, fun x y => by rw [List.take_zero]; rfl⟩ (fun _ _ _ ⟨_, s, _⟩ => .inl (.inl (s _ _ (g.at m5)))) ?_ ?_
    · rintro i v H2' H2 hi ⟨kvs, s2, hDl, hkl, hkv⟩ ⟨rfl, hv⟩
      obtain ⟨⟨px, py⟩, hp, tp, rfl, htp⟩ := m6.at hv
      walk_at "r"
      refine ⟨rfl, ?_⟩
      walk_at "r"
      refine ⟨kvs, [.inl (px : Int), .inl (py : Int)], tp, rfl, s2 _ _ (g.at htp), hDl, small_lt (by omega), putK kvs [.inl (px : Int), .inl (py : Int)] (.bl true), s2.upd_mut hD, upd_same, ?_, fun x y => ?_⟩
      · have := length_putK kvs [.inl (px : Int), .inl (py : Int)] (.bl true)
        omega
      · rw [valV_put, take_snoc hp]
        by_cases c : x = px ∧ y = py
        · rw [if_pos (by rw [c.1, c.2]), decide_eq_true (by rw [c.1, c.2]; simp)]
          rfl
        · rw [if_neg (fun z => c ?_), hkv]
          · refine decide_eq_decide.mpr ⟨fun z => List.mem_append_left _ z, fun z => ?_⟩
            rcases List.mem_append.mp z with z | z
            · exact z
            · have := List.mem_singleton.mp z
              cases this
              exact absurd ⟨rfl, rfl⟩ c
          · injection z with z1 z2
            injection z2 with z2 _
            have z1 := Sum.inl.inj z1
            have z2 := Sum.inl.inj z2
            exact ⟨by omega, by omega⟩
    · rintro H2 ⟨kvs, s2, hDl, hkl, hkv⟩
      rw [List.take_of_length_le (by rw [m6.1]; exact Nat.le_refl _)] at hkv
      have g := (g.heap s2).tell hDl hD0
      have sG := same_upd (o := .dT kvs) hDG
      walk_at "r"
      refine e_make g.gh fun x dx H3 s3 hx hxG hx3 => ?_
      refine ⟨x, x1, f1, l1, Dl, dx, (readT t 0).opt, rfl, hx3, fun H4 fs h4 hr4 a1 a2 a3 a4 a5 a6 => ⟨rfl, ?_⟩⟩
      have g4 := made_grow g.gh s3 hx h4 hr4
      have s4 := sG.trans g4.gg
      refine k x _ H4 (g.trans g4) ⟨dx, fs, x1, f1, l1, Dl, vs, kvs, upd_same, a1, a2, a3, a4, a5, a6, s4 _ _ m1, m2.mono fun _ _ => AtomP.mono s4, s4 _ _ m3, s4 _ _ m4, g4.gg _ _ upd_same, hkv⟩
end
end K48
/-! ## KD19 -/
set_option maxHeartbeats 4000000
namespace K48
open PySem L2
local macro_rules | `(tactic| walk_at "r1") => `(tactic| first
  | with_reducible refine r_seq ?_ | with_reducible refine r_asg ?_ | with_reducible refine r_ret ?_ | with_reducible refine r_drop ?_ | with_reducible refine r_if ?_ | with_reducible refine r_next ?_
  | with_reducible refine r_name ?_ | with_reducible refine r_c ?_ | ((with_reducible show tVar _ _ _ _); refine r_var rfl ?_) | with_reducible refine r_op ?_ | with_reducible refine r_un ?_
  | with_reducible refine r_i0 ?_ | with_reducible refine r_test ?_ | with_reducible refine r_tB ?_ | with_reducible refine r_bl ?_ | with_reducible refine r_and ?_ | with_reducible refine r_or ?_
  | with_reducible refine r_not ?_ | with_reducible refine r_ifE ?_ | with_reducible refine r_cons ?_ | with_reducible refine r_nil ?_ | with_reducible refine r_cb ?_ | with_reducible refine r_call ?_
  | with_reducible refine r_lstG ?_ | with_reducible refine r_tupG ?_ | with_reducible refine r_sl ?_ | with_reducible refine r_noP ?_ | with_reducible refine r_part ?_ | with_reducible refine r_exI ?_
  | with_reducible refine r_tr ?_ | with_reducible refine r_fa ?_ | with_reducible refine r_for ?_ | with_reducible refine r_iList ?_ | with_reducible refine r_iTup ?_ | with_reducible refine r_iStr ?_
  | with_reducible refine r_iR1 ?_ | with_reducible refine r_iR2 ?_ | with_reducible refine r_lc ?_ | with_reducible refine r_nt ?_ | with_reducible refine r_nf ?_ | with_reducible refine r_orV ?_ | with_reducible refine r_andV ?_ | with_reducible refine r_yesT ?_ | with_reducible refine r_gsub ?_ | with_reducible refine r_gcons ?_ | with_reducible refine r_gnil ?_ | with_reducible refine r_bm ?_ | with_reducible refine r_bm0 ?_
  | with_reducible refine r_fldG ?_ | with_reducible refine r_sfldG ?_ | with_reducible refine r_meth ?_ | with_reducible refine r_make ?_ | with_reducible refine r_dget ?_ | with_reducible refine r_din ?_ | with_reducible refine r_dnin ?_ | with_reducible refine r_dput ?_
  | with_reducible refine r_dgetN ?_ | with_reducible refine r_dinN ?_ | with_reducible refine r_dninN ?_ | with_reducible refine r_dputN ?_ | ((with_reducible show tAug _ _ _ _ _ _); refine r_aug rfl ?_) | with_reducible refine r_par ?_ | with_reducible refine r_neg ?_ | with_reducible refine r_iEnum ?_ | with_reducible refine r_iZip ?_ | with_reducible refine r_iZipA ?_)
local macro_rules | `(tactic| walk_at "r") => `(tactic| repeat walk_at "r1")

/-! ### patterns -/
structure PC (K : PySem.W.Frag) (mg : Str → Option Value) (CP : Addr) : Prop where
  c : CF K CP ["tree"]
  i : C8.InsC K CP
  g : mg "Pattern" = some (.ref CP)
  tup : PySem.W.kitOne K (.type "tuple") (.ref CP) = some false
  lst : PySem.W.kitOne K (.type "list") (.ref CP) = some false
structure PatAt (CP : Addr) (G : Hp) (a : Addr) (t : PTree Str) : Prop where
  ex : ∃ dx fs v, G a = some (.ins CP dx fs) ∧ fld fs "tree" = some v ∧ TreeAt G false t v
theorem PatAt.mono {CP : Addr} {G G' : Hp} (s : Same G G') {a : Addr} {t : PTree Str} (h : PatAt CP G a t) : PatAt CP G' a t := by
  obtain ⟨dx, fs, v, h1, h2, h3⟩ := h.ex
  exact ⟨dx, fs, v, s _ _ h1, h2, h3.mono s⟩
def spJoined : Sp := fun vs H Q _ => ∃ (k : Str) (x y : V) (G : Hp), vs = [.str k, x, y] ∧ Same G H ∧ ∀ (q : Addr) (G' H' : Hp), Grow no G H G' H' → G' q = some (.tup [.str k, x, y]) → Q (.ref q) H'
def spPatInit (CP : Addr) : Sp := fun vs H Q _ => ∃ (x dx : Addr) (v : V), vs = [.ref x, v] ∧ H x = some (.ins CP dx []) ∧ ∀ (H' : Hp) (fs : List (Str × V)), H' x = some (.ins CP dx fs) → (∀ r, r ≠ x → H' r = H r) → fld fs "tree" = some v → Q .non H'
/-- a new pattern of the tree -/
def QPat (CP : Addr) (G H : Hp) (t : PTree Str) (Q : VK) : Prop := ∀ (q : Addr) (G' H' : Hp), Grow no G H G' H' → PatAt CP G' q t → Q (.ref q) H'
def spPat2 (CP : Addr) (f : PTree Str → PTree Str → PTree Str) : Sp := fun vs H Q _ => ∃ (a b : Addr) (t u : PTree Str) (G : Hp), vs = [.ref a, .ref b] ∧ Same G H ∧ PatAt CP G a t ∧ PatAt CP G b u ∧ QPat CP G H (f t u) Q
def spPat1 (CP : Addr) (f : PTree Str → PTree Str) : Sp := fun vs H Q _ => ∃ (a : Addr) (t : PTree Str) (G : Hp), vs = [.ref a] ∧ Same G H ∧ PatAt CP G a t ∧ QPat CP G H (f t) Q
def spAnyOf (CP : Addr) : Sp := fun vs H Q _ => ∃ (ns : List Str) (G : Hp), vs = ns.map V.str ∧ Same G H ∧ ns ≠ [] ∧ ns.length ≤ 100 ∧ (∀ z ∈ ns, IsNm z) ∧ QPat CP G H (.any ns) Q
def spNoneOf (CP : Addr) : Sp := fun vs H Q _ => ∃ (ns : List Str) (G : Hp), vs = ns.map V.str ∧ Same G H ∧ ns.length ≤ 100 ∧ (∀ z ∈ ns, IsNm z) ∧ QPat CP G H (.non ns) Q
def spWord (CP : Addr) : Sp := fun vs H Q _ => ∃ (a : Addr) (ns : List Str) (G : Hp), vs = [.ref a] ∧ Same G H ∧ (StrL G a ns ∨ StrT G a ns) ∧ ns ≠ [] ∧ ns.length ≤ 100 ∧ QPat CP G H (rowT ns) Q
/-- a pattern, or the tuple or list of names that stands for one -/
inductive ThingAt (CP : Addr) (G : Hp) (a : Addr) : PTree Str → Prop where
  | pat {t : PTree Str} (h : PatAt CP G a t) : ThingAt CP G a t
  | row {ns : List Str} (h : StrL G a ns ∨ StrT G a ns) (h0 : ns ≠ []) (hn : ∀ z ∈ ns, IsNm z) : ThingAt CP G a (rowT ns)
theorem ThingAt.mono {CP : Addr} {G G' : Hp} (s : Same G G') {a : Addr} {t : PTree Str} (h : ThingAt CP G a t) : ThingAt CP G' a t := by
  cases h with
  | pat h => exact .pat (h.mono s)
  | row h h0 hn => exact .row (h.imp (s _ _) (s _ _)) h0 hn
def spAsPat (CP : Addr) : Sp := fun vs H Q _ => ∃ (a : Addr) (t : PTree Str) (G : Hp), vs = [.ref a] ∧ Same G H ∧ ThingAt CP G a t ∧ t.leaves ≤ 100 ∧ QPat CP G H t Q
def spMachOf (CP CM : Addr) (D : Nat) : Sp := fun vs H Q _ => ∃ (a : Addr) (t : PTree Str) (G : Hp), vs = [.ref a] ∧ Same G H ∧ ThingAt CP G a t ∧ t.depth < D ∧ t.depth ≤ 6 ∧ t.leaves ≤ 20 ∧ ∀ (q : Addr) (G' H' : Hp), Grow no G H G' H' → MachP CM G' q (readT t 0) → Q (.ref q) H'
section
variable {P : Program} {w : World} {K : PySem.W.Frag} {mg : Str → Option Value} {base : Heap} {CM C_Pattern : Addr}
theorem e_slA {G1 H1 : Hp} {Q : VK} {a : Addr} {xs : List V} {lo hi : Option Int} (s : Same G1 H1) (ha : G1 a = some (.tup xs)) (hn : ¬ (HT.sIx xs.length 0 lo = 0 ∧ HT.sIx xs.length xs.length hi = xs.length))
    (k : ∀ p G2 H2, Grow no G1 H1 G2 H2 → G2 p = some (.tup (cutV xs lo hi)) → H1 p = none → Q (.ref p) H2) : rSlA K (.ref a) lo hi H1 Q :=
  ⟨a, xs, rfl, .inl (.inl (s _ _ ha)), fun z => absurd z hn, fun _ => e_newQ (Q' := fun p H => Q (.ref p) H) s k⟩
/-- a def with *args -/
theorem Dn.star {x pv : Str} {st : Stmt} {N : List Str} {k : Nat} {sp : Sp} (F : Dn K mg x st) (S : FnScope N [pv] (defScope st)) (b : ∀ (kV doc pm : Value) (an : Option Addr) (cdv ct : Value) (rest : List Value), bindArgs (PySem.W.fnOf x x (defArgs st) (defBody st) (defScope st) .none kV doc pm an cdv ct) ⟨rest, []⟩ = (newTuple rest >>= fun t => pure [(pv, t)]))
    (h : ∀ (f : Addr) (cdv : Value) (A : Around) (outer : List Env) (s : Shared) (H : Hp) (vs : List V) (Q : VK) (E : XK), Room k (A.deeper (PyProof.Rows.envOfC x (defScope st) s.heap.objs.size f cdv)) → sp vs H Q E →
      ∃ t, PSs (cxOf C8.CX0 P w K mg base N x (defScope st) f cdv A outer s H E).nox (defBody st) t ∧ t { nx := fun _ H' => Q .non H', rt := Q } (start N vs) H) : Str1 P w K mg base (k + 1) x (fun vs H Q E => vs.length ≤ sizeLine ∧ ∀ p, H p = none → sp [.ref p] (upd H p (.tup vs)) Q E) := by
  obtain ⟨f, fd, F1, hm⟩ := F.ex
  have kp := F1.kp
  obtain ⟨oc, od, kV, doc, pm, an, cdv, ct, osl, rfl, lk, hcd⟩ := F1.ex
  refine ⟨f, ?_, hm, kp⟩
  have R := StX.fn_star (CX := C8.CX0) (P := P) (w := w) (K := K) (mg := mg) (base := base) (k := k) (ps := []) (pv := pv) (N := N) (sp := sp) lk hcd S StX.cxUp_none (fun us rest hl => by
    have : us = [] := List.length_eq_zero_iff.mp hl
    subst this
    exact b kV doc pm an cdv ct rest) (fun A outer s H vs Q E hr q => by
      obtain ⟨t, h1, h2⟩ := h f cdv A outer s H vs Q E hr q
      exact ⟨t, h1.nox, h2⟩)
  exact R.imp fun vs H Q E q => ⟨[], vs, rfl, rfl, q.1, q.2⟩
abbrev st_joined : Stmt := topS 49
abbrev N_joined : List Str := ["kind", "one", "two"]
theorem sc_joined : FnScope N_joined ["kind", "one", "two"] (defScope st_joined) := ⟨rfl, rfl, rfl, by decide +kernel, rfl, by decide +kernel, by decide +kernel⟩
theorem ok_joined (T : Top K mg) (F : Dn K mg "joined" st_joined) : Cal P w K mg base 1 "joined" spJoined := by
  refine F.cal sc_joined (fun vs H Q E h => ?_) (fun _ _ _ _ _ _ us hl => match us, hl with | [_, _, _], _ => rfl) (fun f cdv A outer s H vs Q E hr h => ?_)
  · obtain ⟨k, x, y, G, rfl, _⟩ := h
    rfl
  · obtain ⟨k, x, y, G, rfl, sg, q⟩ := h
    refine ⟨_, (pss_one (ps_ret (pe_tup (pa_cons (pv 0) (pa_cons (pv 1) (pa_cons (pv 2) pa_nil)))))), ?_⟩
    walk_at "r"
    exact e_tup sg rfl fun t G2 H2 e2 ht _ => q t G2 H2 e2 ht
abbrev st_Pattern_init : Stmt := inClass (topS 55) 0
abbrev N_Pattern_init : List Str := ["self", "tree"]
theorem sc_Pattern_init : FnScope N_Pattern_init ["self", "tree"] (defScope st_Pattern_init) := ⟨rfl, rfl, rfl, by decide +kernel, rfl, by decide +kernel, by decide +kernel⟩
theorem ok_Pattern_init (T : Top K mg) (pc : PC K mg C_Pattern) (F : In K mg "Pattern" C_Pattern "Pattern.__init__" st_Pattern_init) : C8.Mak P w K mg base 1 "Pattern" C_Pattern (spPatInit C_Pattern) [] := by
  refine F.mak sc_Pattern_init (fun vs H Q E h => ?_) (fun _ _ _ _ _ _ us hl => match us, hl with | [_, _], _ => rfl) (fun f cdv A outer s H vs Q E hr h => ?_)
  · obtain ⟨x, dx, v, rfl, _⟩ := h
    rfl
  · obtain ⟨x, dx, v, rfl, hx, k⟩ := h
    refine ⟨_, (pss_one (ps_fld (pv 0) (pv 1) rfl)), ?_⟩
    walk_at "r"
    refine r_setf pc.c (by decide) hx rfl fun H1 h1 n1 => ?_
    exact k H1 _ h1 n1 rfl
/-- Pattern(v), of a tree that is told -/
theorem e_pat {G1 H1 : Hp} {Q : VK} {v : V} {t : PTree Str} {E : XK} (s : Same G1 H1) (ht : TreeAt G1 false t v) (k : QPat C_Pattern G1 H1 t Q) : ∀ x dx, H1 x = none → H1 dx = none → dx ≠ x → spPatInit C_Pattern (.ref x :: [v]) (upd (upd H1 dx (.own x)) x (.ins C_Pattern dx [])) (fun v H2 => v = .non ∧ Q (.ref x) H2) E :=
  e_make s fun x dx H3 s3 hx hxG hx3 => ⟨x, dx, v, rfl, hx3, fun H4 fs h4 hr4 a1 => ⟨rfl, k x _ H4 (made_grow s s3 hx h4 hr4) ⟨dx, fs, v, upd_same, a1, ht.mono (made_grow s s3 hx h4 hr4).gg⟩⟩⟩
abbrev st_Pattern_add : Stmt := inClass (topS 55) 6
abbrev N_Pattern_add : List Str := ["self", "other"]
theorem sc_Pattern_add : FnScope N_Pattern_add ["self", "other"] (defScope st_Pattern_add) := ⟨rfl, rfl, rfl, by decide +kernel, rfl, by decide +kernel, by decide +kernel⟩
theorem ok_Pattern_add (T : Top K mg) (pc : PC K mg C_Pattern) (F : Sn K C_Pattern "__add__" "Pattern.__add__" st_Pattern_add) (c_joined : Cal P w K mg base 1 "joined" spJoined) (c_Pattern : C8.Mak P w K mg base 1 "Pattern" C_Pattern (spPatInit C_Pattern) []) : Spc P w K mg base 3 C_Pattern "__add__" (spPat2 C_Pattern .join) := by
  have g_Pattern := pc.g
  refine F.spc pc.c.cls sc_Pattern_add (fun vs H Q E h => ?_) (fun _ _ _ _ _ _ us hl => match us, hl with | [_, _], _ => rfl) (fun f cdv A outer s H vs Q E hr h => ?_)
  · obtain ⟨a, b, t, u, G, rfl, _⟩ := h
    rfl
  · obtain ⟨a, b, t, u, G, rfl, sg, ha, hb, k⟩ := h
    obtain ⟨da, fa, va, a1, a2, a3⟩ := ha.ex
    obtain ⟨db, fb, vb, b1, b2, b3⟩ := hb.ex
    refine ⟨_, (pss_cons (ps_if (pt_not (pt_val (pe_callB call_isi rfl T.b_isinstance (by decide +kernel) (pa_cons (pv 1) (pa_cons (pe_glob (v := .ref C_Pattern) rfl g_Pattern rfl) pa_nil))))) (pss_one ps_never) pss_nil)
  (pss_one (ps_ret (C8.pe_mk c_Pattern hr (by omega) rfl (pa_cons (C8.pe_c c_joined hr (by omega) rfl (pa_cons pe_str (pa_cons (pe_fld (pv 0) rfl) (pa_cons (pe_fld (pv 1) rfl) pa_nil)))) pa_nil))))), ?_⟩
    walk_at "r"
    refine r_isi (b := true) (.own _) (.base (.ins (sg _ _ b1) pc.i.cl pc.i.ha pc.i.hn pc.i.htk pc.i.hm)) pc.i.me ?_
    walk_at "r"
    refine r_field pc.c (by decide) (sg _ _ a1) a2 ?_
    walk_at "r"
    refine r_field pc.c (by decide) (sg _ _ b1) b2 ?_
    walk_at "r"
    refine ⟨_, va, vb, G, rfl, sg, fun q G1 H1 e1 hq => ?_⟩
    walk_at "r"
    exact e_pat e1.gh (t := .join t u) ⟨q, va, vb, rfl, hq, a3.mono e1.gg, b3.mono e1.gg⟩ fun x G2 H2 e2 hp => k x G2 H2 (e1.trans e2) hp
abbrev st_Pattern_or : Stmt := inClass (topS 55) 7
abbrev N_Pattern_or : List Str := ["self", "other"]
theorem sc_Pattern_or : FnScope N_Pattern_or ["self", "other"] (defScope st_Pattern_or) := ⟨rfl, rfl, rfl, by decide +kernel, rfl, by decide +kernel, by decide +kernel⟩
theorem ok_Pattern_or (T : Top K mg) (pc : PC K mg C_Pattern) (F : Sn K C_Pattern "__or__" "Pattern.__or__" st_Pattern_or) (c_joined : Cal P w K mg base 1 "joined" spJoined) (c_Pattern : C8.Mak P w K mg base 1 "Pattern" C_Pattern (spPatInit C_Pattern) []) : Spc P w K mg base 3 C_Pattern "__or__" (spPat2 C_Pattern .either) := by
  have g_Pattern := pc.g
  refine F.spc pc.c.cls sc_Pattern_or (fun vs H Q E h => ?_) (fun _ _ _ _ _ _ us hl => match us, hl with | [_, _], _ => rfl) (fun f cdv A outer s H vs Q E hr h => ?_)
  · obtain ⟨a, b, t, u, G, rfl, _⟩ := h
    rfl
  · obtain ⟨a, b, t, u, G, rfl, sg, ha, hb, k⟩ := h
    obtain ⟨da, fa, va, a1, a2, a3⟩ := ha.ex
    obtain ⟨db, fb, vb, b1, b2, b3⟩ := hb.ex
    refine ⟨_, (pss_cons (ps_if (pt_not (pt_val (pe_callB call_isi rfl T.b_isinstance (by decide +kernel) (pa_cons (pv 1) (pa_cons (pe_glob (v := .ref C_Pattern) rfl g_Pattern rfl) pa_nil))))) (pss_one ps_never) pss_nil)
  (pss_one (ps_ret (C8.pe_mk c_Pattern hr (by omega) rfl (pa_cons (C8.pe_c c_joined hr (by omega) rfl (pa_cons pe_str (pa_cons (pe_fld (pv 0) rfl) (pa_cons (pe_fld (pv 1) rfl) pa_nil)))) pa_nil))))), ?_⟩
    walk_at "r"
    refine r_isi (b := true) (.own _) (.base (.ins (sg _ _ b1) pc.i.cl pc.i.ha pc.i.hn pc.i.htk pc.i.hm)) pc.i.me ?_
    walk_at "r"
    refine r_field pc.c (by decide) (sg _ _ a1) a2 ?_
    walk_at "r"
    refine r_field pc.c (by decide) (sg _ _ b1) b2 ?_
    walk_at "r"
    refine ⟨_, va, vb, G, rfl, sg, fun q G1 H1 e1 hq => ?_⟩
    walk_at "r"
    exact e_pat e1.gh (t := .either t u) ⟨q, va, vb, rfl, hq, a3.mono e1.gg, b3.mono e1.gg⟩ fun x G2 H2 e2 hp => k x G2 H2 (e1.trans e2) hp
abbrev st_repeated : Stmt := topS 59
abbrev N_repeated : List Str := ["pattern"]
theorem sc_repeated : FnScope N_repeated ["pattern"] (defScope st_repeated) := ⟨rfl, rfl, rfl, by decide +kernel, rfl, by decide +kernel, by decide +kernel⟩
theorem ok_repeated (T : Top K mg) (pc : PC K mg C_Pattern) (F : Dn K mg "repeated" st_repeated) (c_Pattern : C8.Mak P w K mg base 1 "Pattern" C_Pattern (spPatInit C_Pattern) []) : Cal P w K mg base 3 "repeated" (spPat1 C_Pattern .rep) := by
  refine F.cal sc_repeated (fun vs H Q E h => ?_) (fun _ _ _ _ _ _ us hl => match us, hl with | [_], _ => rfl) (fun f cdv A outer s H vs Q E hr h => ?_)
  · obtain ⟨a, t, G, rfl, _⟩ := h
    rfl
  · obtain ⟨a, t, G, rfl, sg, ha, k⟩ := h
    obtain ⟨da, fa, va, a1, a2, a3⟩ := ha.ex
    refine ⟨_, (pss_one (ps_ret (C8.pe_mk c_Pattern hr (by omega) rfl (pa_cons (pe_tup (pa_cons pe_str (pa_cons (pe_fld (pv 0) rfl) pa_nil))) pa_nil)))), ?_⟩
    walk_at "r"
    refine r_field pc.c (by decide) (sg _ _ a1) a2 ?_
    walk_at "r"
    refine e_tup sg rfl fun q G1 H1 e1 hq _ => ?_
    walk_at "r"
    exact e_pat e1.gh (t := .rep t) ⟨q, va, rfl, hq, a3.mono e1.gg⟩ fun x G2 H2 e2 hp => k x G2 H2 (e1.trans e2) hp
abbrev st_optional : Stmt := topS 60
abbrev N_optional : List Str := ["pattern"]
theorem sc_optional : FnScope N_optional ["pattern"] (defScope st_optional) := ⟨rfl, rfl, rfl, by decide +kernel, rfl, by decide +kernel, by decide +kernel⟩
theorem ok_optional (T : Top K mg) (pc : PC K mg C_Pattern) (F : Dn K mg "optional" st_optional) (c_Pattern : C8.Mak P w K mg base 1 "Pattern" C_Pattern (spPatInit C_Pattern) []) : Cal P w K mg base 3 "optional" (spPat1 C_Pattern .opt) := by
  refine F.cal sc_optional (fun vs H Q E h => ?_) (fun _ _ _ _ _ _ us hl => match us, hl with | [_], _ => rfl) (fun f cdv A outer s H vs Q E hr h => ?_)
  · obtain ⟨a, t, G, rfl, _⟩ := h
    rfl
  · obtain ⟨a, t, G, rfl, sg, ha, k⟩ := h
    obtain ⟨da, fa, va, a1, a2, a3⟩ := ha.ex
    refine ⟨_, (pss_one (ps_ret (C8.pe_mk c_Pattern hr (by omega) rfl (pa_cons (pe_tup (pa_cons pe_str (pa_cons (pe_fld (pv 0) rfl) pa_nil))) pa_nil)))), ?_⟩
    walk_at "r"
    refine r_field pc.c (by decide) (sg _ _ a1) a2 ?_
    walk_at "r"
    refine e_tup sg rfl fun q G1 H1 e1 hq _ => ?_
    walk_at "r"
    exact e_pat e1.gh (t := .opt t) ⟨q, va, rfl, hq, a3.mono e1.gg⟩ fun x G2 H2 e2 hp => k x G2 H2 (e1.trans e2) hp
abbrev st_any_of : Stmt := topS 56
abbrev N_any_of : List Str := ["names"]
theorem sc_any_of : FnScope N_any_of ["names"] (defScope st_any_of) := ⟨rfl, rfl, rfl, by decide +kernel, rfl, by decide +kernel, by decide +kernel⟩
theorem ok_any_of (T : Top K mg) (pc : PC K mg C_Pattern) (F : Dn K mg "any_of" st_any_of) (c_check_lanes : Cal P w K mg base 2 "check_lanes" (spCheck K)) (c_Pattern : C8.Mak P w K mg base 1 "Pattern" C_Pattern (spPatInit C_Pattern) []) : Str1 P w K mg base 3 "any_of" (spAnyOf C_Pattern) := by
  have R := F.star (P := P) (w := w) (base := base) (k := 2) (sp := fun vs H Q _ => ∃ (a : Addr) (ns : List Str) (G : Hp), vs = [.ref a] ∧ Same G H ∧ StrT G a ns ∧ ns ≠ [] ∧ ns.length ≤ 100 ∧ (∀ z ∈ ns, IsNm z) ∧ QPat C_Pattern G H (.any ns) Q) sc_any_of (fun _ _ _ _ _ _ rest => by cases rest <;> rfl) (fun f cdv A outer s H vs Q E hr h => ?_)
  · obtain ⟨f, F1, h1, h2⟩ := R.ex
    refine ⟨f, F1.imp fun vs H Q E q => ?_, h1, h2⟩
    obtain ⟨ns, G, rfl, sg, h0, hl, hn, k⟩ := q
    refine ⟨by rw [List.length_map]; exact small_sz (by omega), fun p hp => ?_⟩
    have e := (Grow.refl sg (m := no)).newN (o := .tup (ns.map V.str)) hp
    exact ⟨p, ns, _, rfl, e.gh, upd_same, h0, hl, hn, fun q G2 H2 e2 hq => k q G2 H2 (e.trans e2) hq⟩
  · obtain ⟨a, ns, G, rfl, sg, ha, h0, hl, hn, k⟩ := h
    refine ⟨_, (pss_cons (ps_expr (C8.pe_c c_check_lanes hr (by omega) rfl (pa_cons (pv 0) pa_nil)))
  (pss_one (ps_ret (C8.pe_mk c_Pattern hr (by omega) rfl (pa_cons (pe_tup (pa_cons pe_str (pa_cons (pv 0) pa_nil))) pa_nil))))), ?_⟩
    walk_at "r"
    refine ⟨a, ns, rfl, .inr (.inl (.inl (sg _ _ ha))), h0, by omega, hn, fun H1 s1 => ?_⟩
    have g := (Grow.refl sg (m := no)).heap s1
    walk_at "r"
    refine e_tup g.gh rfl fun q G2 H2 e2 hq _ => ?_
    walk_at "r"
    exact e_pat e2.gh (t := .any ns) ⟨q, a, rfl, hq, e2.gg _ _ ha⟩ fun x G3 H3 e3 hp => k x G3 H3 ((g.trans e2).trans e3) hp
abbrev st_none_of : Stmt := topS 57
abbrev N_none_of : List Str := ["names"]
theorem sc_none_of : FnScope N_none_of ["names"] (defScope st_none_of) := ⟨rfl, rfl, rfl, by decide +kernel, rfl, by decide +kernel, by decide +kernel⟩
theorem ok_none_of (T : Top K mg) (pc : PC K mg C_Pattern) (F : Dn K mg "none_of" st_none_of) (c_check_lanes : Cal P w K mg base 2 "check_lanes" (spCheck K)) (c_Pattern : C8.Mak P w K mg base 1 "Pattern" C_Pattern (spPatInit C_Pattern) []) : Str1 P w K mg base 3 "none_of" (spNoneOf C_Pattern) := by
  have R := F.star (P := P) (w := w) (base := base) (k := 2) (sp := fun vs H Q _ => ∃ (a : Addr) (ns : List Str) (G : Hp), vs = [.ref a] ∧ Same G H ∧ StrT G a ns ∧ ns.length ≤ 100 ∧ (∀ z ∈ ns, IsNm z) ∧ QPat C_Pattern G H (.non ns) Q) sc_none_of (fun _ _ _ _ _ _ rest => by cases rest <;> rfl) (fun f cdv A outer s H vs Q E hr h => ?_)
  · obtain ⟨f, F1, h1, h2⟩ := R.ex
    refine ⟨f, F1.imp fun vs H Q E q => ?_, h1, h2⟩
    obtain ⟨ns, G, rfl, sg, hl, hn, k⟩ := q
    refine ⟨by rw [List.length_map]; exact small_sz (by omega), fun p hp => ?_⟩
    have e := (Grow.refl sg (m := no)).newN (o := .tup (ns.map V.str)) hp
    exact ⟨p, ns, _, rfl, e.gh, upd_same, hl, hn, fun q G2 H2 e2 hq => k q G2 H2 (e.trans e2) hq⟩
  · obtain ⟨a, ns, G, rfl, sg, ha, hl, hn, k⟩ := h
    refine ⟨_, (pss_cons (ps_if (pt_cmpR op_gt (pe_callB (call_len_seq : CallR _ _ (rLenQ K)) rfl T.b_len (by decide +kernel) (pa_cons (pv 0) pa_nil)) pe_int (nomark _)) (pss_one (ps_expr (C8.pe_c c_check_lanes hr (by omega) rfl (pa_cons (pv 0) pa_nil)))) pss_nil)
  (pss_one (ps_ret (C8.pe_mk c_Pattern hr (by omega) rfl (pa_cons (pe_tup (pa_cons pe_str (pa_cons (pv 0) pa_nil))) pa_nil))))), ?_⟩
    with_reducible show tSeq _ _ _ _ _
    refine r_seqC (fun σ H' => Same H H' ∧ σ = [some (.ref a)]) ?_ ?_
    · rintro σ H1 ⟨s1, rfl⟩
      have g := (Grow.refl sg (m := no)).heap s1
      walk_at "r"
      refine e_tup g.gh rfl fun q G2 H2 e2 hq _ => ?_
      walk_at "r"
      exact e_pat e2.gh (t := .non ns) ⟨q, a, rfl, hq, e2.gg _ _ ha⟩ fun x G3 H3 e3 hp => k x G3 H3 ((g.trans e2).trans e3) hp
    · intro R hR
      walk_at "r"
      refine r_lenQT (sg _ _ ha) ?_
      walk_at "r"
      rw [List.length_map]
      by_cases c : ns = []
      · refine r_no (by rw [c]; rfl) ?_
        walk_at "r"
        exact hR _ _ ⟨Same.refl H, rfl⟩
      · have : 0 < ns.length := List.length_pos_iff.mpr c
        refine r_yes (decide_eq_true (by omega)) ?_
        walk_at "r"
        refine ⟨a, ns, rfl, .inr (.inl (.inl (sg _ _ ha))), c, by omega, hn, fun H1 s1 => ?_⟩
        exact hR _ _ ⟨s1, rfl⟩
abbrev st_word_pattern : Stmt := topS 58
abbrev N_word_pattern : List Str := ["names", "tree", "name"]
theorem sc_word_pattern : FnScope N_word_pattern ["names"] (defScope st_word_pattern) := ⟨rfl, rfl, rfl, by decide +kernel, rfl, by decide +kernel, by decide +kernel⟩
theorem ok_word_pattern (T : Top K mg) (pc : PC K mg C_Pattern) (F : Dn K mg "word_pattern" st_word_pattern) (c_Pattern : C8.Mak P w K mg base 1 "Pattern" C_Pattern (spPatInit C_Pattern) []) : Cal P w K mg base 3 "word_pattern" (spWord C_Pattern) := by
  refine F.cal sc_word_pattern (fun vs H Q E h => ?_) (fun _ _ _ _ _ _ us hl => match us, hl with | [_], _ => rfl) (fun f cdv A outer s H vs Q E hr h => ?_)
  · obtain ⟨a, ns, G, rfl, _⟩ := h
    rfl
  · obtain ⟨a, ns, G, rfl, sg, ha, h0, h100, k⟩ := h
    obtain ⟨n0, nr, rfl⟩ : ∃ x r, ns = x :: r := by cases ns with | nil => exact absurd rfl h0 | cons x r => exact ⟨x, r, rfl⟩
    have g0 := Grow.refl sg (m := no)
    have rowS : ∀ {i : Nat} {z : Str}, nr[i]? = some z → rowT (n0 :: nr.take (i + 1)) = .join (rowT (n0 :: nr.take i)) (.any [z]) := fun hz => by
      rw [take_snoc hz]
      show List.foldl _ _ _ = _
      rw [List.foldl_append]
      rfl
    rcases ha with ha | ha
    · refine ⟨_, (pss_cons (ps_set (i := 1) sc_word_pattern.nd rfl (Or.inl rfl) (pe_tup (pa_cons pe_str (pa_cons (pe_tup (pa_cons (pe_ix ix_list (pv 0) pe_int (fun _ _ => rfl)) pa_nil)) pa_nil))))
  (pss_cons (ps_for PassesOwn.never rfl (pi_list (pe_slice sl_list (pv 0) (po_some pe_int) po_none)) (pg_name (i := 2) sc_word_pattern.nd rfl (Or.inl rfl)) (pss_one (ps_set (i := 1) sc_word_pattern.nd rfl (Or.inl rfl) (pe_tup (pa_cons pe_str (pa_cons (pv 1) (pa_cons (pe_tup (pa_cons pe_str (pa_cons (pe_tup (pa_cons (pv 2) pa_nil)) pa_nil))) pa_nil)))))))
  (pss_one (ps_ret (C8.pe_mk c_Pattern hr (by omega) rfl (pa_cons (pv 1) pa_nil)))))), ?_⟩
      walk_at "r"
      refine r_ixL (j := 0) (g0.at ha) rfl ?_
      walk_at "r"
      refine e_tup g0.gh rfl fun l1 G1 H1 e1 hl1 _ => ?_
      have g := g0.trans e1
      walk_at "r"
      refine e_tup g.gh rfl fun t1 G2 H2 e2 ht1 _ => ?_
      have g := g.trans e2
      walk_at "r"
      refine e_slL (lo := some 1) (hi := none) g.gh (g.gg _ _ ha) fun l2 G3 H3 e3 hl2 _ => ?_
      have g := g.trans e3
      have ec : cutV ((n0 :: nr).map V.str) (some 1) none = nr.map V.str := cut_from _ 1
      rw [ec] at hl2
      refine ⟨l2, rfl, ⟨_, .inl (.inl (g.at hl2))⟩, ?_⟩
      refine for_it (walk_list (xs := nr.map V.str)) (fun i σ H' => ∃ (G' : Hp) (v : V) (y2 : Option V), Grow no G3 H3 G' H' ∧ TreeAt G' false (rowT (n0 :: nr.take i)) v ∧ σ = [some (.ref a), some v, y2])
        ⟨G3, _, _, Grow.refl g.gh, ⟨t1, l1, rfl, e3.gg _ _ ht1, (e2.gg.trans e3.gg) _ _ hl1⟩, rfl⟩ (fun i σ H' _ ⟨_, _, _, e, _⟩ => .inl (.inl (e.at (e.gg _ _ hl2)))) ?_ ?_
      · rintro i v σ H4' H4 hi ⟨G4, tv, y2, e4, ht, rfl⟩ ⟨rfl, hx⟩
        rw [List.getElem?_map] at hx
        obtain ⟨z, hz, rfl⟩ := Option.map_eq_some_iff.mp hx
        walk_at "r"
        refine e_tup e4.gh rfl fun l5 G5 H5 e5 hl5 _ => ?_
        have e := e4.trans e5
        walk_at "r"
        refine e_tup e.gh rfl fun t5 G6 H6 e6 ht5 _ => ?_
        have e := e.trans e6
        walk_at "r"
        refine e_tup e.gh rfl fun t6 G7 H7 e7 ht6 _ => ?_
        have e := e.trans e7
        walk_at "r"
        refine ⟨G7, _, _, e, ?_, rfl⟩
        rw [rowS hz]
        exact ⟨t6, tv, .ref t5, rfl, ht6, ht.mono ((e5.gg.trans e6.gg).trans e7.gg), t5, l5, rfl, e7.gg _ _ ht5, (e6.gg.trans e7.gg) _ _ hl5⟩
      · rintro σ H4 ⟨G4, tv, y2, e4, ht, rfl⟩
        rw [List.take_of_length_le (by rw [List.length_map]; exact Nat.le_refl _)] at ht
        walk_at "r"
        exact e_pat e4.gh ht fun x G5 H5 e5 hp => k x G5 H5 ((g.trans e4).trans e5) hp
    · refine ⟨_, (pss_cons (ps_set (i := 1) sc_word_pattern.nd rfl (Or.inl rfl) (pe_tup (pa_cons pe_str (pa_cons (pe_tup (pa_cons (pe_ix ix_tup (pv 0) pe_int (fun _ _ => rfl)) pa_nil)) pa_nil))))
  (pss_cons (ps_for PassesOwn.never rfl (pi_tup (pe_slice sl_tupA (pv 0) (po_some pe_int) po_none)) (pg_name (i := 2) sc_word_pattern.nd rfl (Or.inl rfl)) (pss_one (ps_set (i := 1) sc_word_pattern.nd rfl (Or.inl rfl) (pe_tup (pa_cons pe_str (pa_cons (pv 1) (pa_cons (pe_tup (pa_cons pe_str (pa_cons (pe_tup (pa_cons (pv 2) pa_nil)) pa_nil))) pa_nil)))))))
  (pss_one (ps_ret (C8.pe_mk c_Pattern hr (by omega) rfl (pa_cons (pv 1) pa_nil)))))), ?_⟩
      walk_at "r"
      refine r_ixT (j := 0) (g0.at ha) rfl ?_
      walk_at "r"
      refine e_tup g0.gh rfl fun l1 G1 H1 e1 hl1 _ => ?_
      have g := g0.trans e1
      walk_at "r"
      refine e_tup g.gh rfl fun t1 G2 H2 e2 ht1 _ => ?_
      have g := g.trans e2
      walk_at "r"
      have ec : cutV ((n0 :: nr).map V.str) (some 1) none = nr.map V.str := cut_from _ 1
      refine e_slA (lo := some 1) (hi := none) g.gh (g.gg _ _ ha) (fun z => ?_) fun l2 G3 H3 e3 hl2 _ => ?_
      · have z1 := z.1
        rw [show (some (1 : Int)) = some ((1 : Nat) : Int) from rfl, HT.sIx_nat, List.map_cons, List.length_cons] at z1
        omega
      have g := g.trans e3
      rw [ec] at hl2
      refine ⟨l2, rfl, ⟨_, .inl (.inl (g.at hl2))⟩, ?_⟩
      refine for_it (walk_tup (xs := nr.map V.str)) (fun i σ H' => ∃ (G' : Hp) (v : V) (y2 : Option V), Grow no G3 H3 G' H' ∧ TreeAt G' false (rowT (n0 :: nr.take i)) v ∧ σ = [some (.ref a), some v, y2])
        ⟨G3, _, _, Grow.refl g.gh, ⟨t1, l1, rfl, e3.gg _ _ ht1, (e2.gg.trans e3.gg) _ _ hl1⟩, rfl⟩ (fun i σ H' _ ⟨_, _, _, e, _⟩ => .inl (.inl (e.at (e.gg _ _ hl2)))) ?_ ?_
      · rintro i v σ H4' H4 hi ⟨G4, tv, y2, e4, ht, rfl⟩ ⟨rfl, hx⟩
        rw [List.getElem?_map] at hx
        obtain ⟨z, hz, rfl⟩ := Option.map_eq_some_iff.mp hx
        walk_at "r"
        refine e_tup e4.gh rfl fun l5 G5 H5 e5 hl5 _ => ?_
        have e := e4.trans e5
        walk_at "r"
        refine e_tup e.gh rfl fun t5 G6 H6 e6 ht5 _ => ?_
        have e := e.trans e6
        walk_at "r"
        refine e_tup e.gh rfl fun t6 G7 H7 e7 ht6 _ => ?_
        have e := e.trans e7
        walk_at "r"
        refine ⟨G7, _, _, e, ?_, rfl⟩
        rw [rowS hz]
        exact ⟨t6, tv, .ref t5, rfl, ht6, ht.mono ((e5.gg.trans e6.gg).trans e7.gg), t5, l5, rfl, e7.gg _ _ ht5, (e6.gg.trans e7.gg) _ _ hl5⟩
      · rintro σ H4 ⟨G4, tv, y2, e4, ht, rfl⟩
        rw [List.take_of_length_le (by rw [List.length_map]; exact Nat.le_refl _)] at ht
        walk_at "r"
        exact e_pat e4.gh ht fun x G5 H5 e5 hp => k x G5 H5 ((g.trans e4).trans e5) hp
abbrev st_as_pattern : Stmt := topS 61
abbrev N_as_pattern : List Str := ["thing"]
theorem sc_as_pattern : FnScope N_as_pattern ["thing"] (defScope st_as_pattern) := ⟨rfl, rfl, rfl, by decide +kernel, rfl, by decide +kernel, by decide +kernel⟩
theorem ok_as_pattern (T : Top K mg) (pc : PC K mg C_Pattern) (F : Dn K mg "as_pattern" st_as_pattern) (c_check_lanes : Cal P w K mg base 2 "check_lanes" (spCheck K)) (c_word_pattern : Cal P w K mg base 3 "word_pattern" (spWord C_Pattern)) : Cal P w K mg base 4 "as_pattern" (spAsPat C_Pattern) := by
  have g_Pattern := pc.g
  refine F.cal sc_as_pattern (fun vs H Q E h => ?_) (fun _ _ _ _ _ _ us hl => match us, hl with | [_], _ => rfl) (fun f cdv A outer s H vs Q E hr h => ?_)
  · obtain ⟨a, t, G, rfl, _⟩ := h
    rfl
  · obtain ⟨a, t, G, rfl, sg, ha, hl, k⟩ := h
    refine ⟨_, (pss_cons (ps_if (pt_val (pe_callB call_isi rfl T.b_isinstance (by decide +kernel) (pa_cons (pv 0) (pa_cons (pe_glob (v := .ref C_Pattern) rfl g_Pattern rfl) pa_nil)))) (pss_one (ps_ret (pv 0))) pss_nil)
  (pss_cons (ps_expr (C8.pe_c c_check_lanes hr (by omega) rfl (pa_cons (pv 0) pa_nil)))
  (pss_one (ps_ret (C8.pe_c c_word_pattern hr (by omega) rfl (pa_cons (pv 0) pa_nil)))))), ?_⟩
    walk_at "r"
    cases ha with
    | pat ha =>
      obtain ⟨da, fa, va, a1, a2, a3⟩ := ha.ex
      refine r_isi (b := true) (.own _) (.base (.ins (sg _ _ a1) pc.i.cl pc.i.ha pc.i.hn pc.i.htk pc.i.hm)) pc.i.me ?_
      walk_at "r"
      exact k a G H (Grow.refl sg) ha
    | @row ns ha h0 hn =>
      have hlen := (rowT_leaves h0).1
      have rest : ∀ H1, Same H H1 → True := fun _ _ => trivial
      rcases ha with ha | ha
      · refine r_isi (b := false) (.own _) (.base (.lst (sg _ _ ha))) pc.lst ?_
        walk_at "r"
        refine ⟨a, ns, rfl, .inl (.inl (.inl (sg _ _ ha))), h0, by omega, hn, fun H1 s1 => ?_⟩
        have g := (Grow.refl sg (m := no)).heap s1
        walk_at "r"
        exact ⟨a, ns, G, rfl, g.gh, .inl ha, h0, by omega, fun q G2 H2 e2 hp => k q G2 H2 (g.trans e2) hp⟩
      · refine r_isi (b := false) (.own _) (.base (.tup (sg _ _ ha))) pc.tup ?_
        walk_at "r"
        refine ⟨a, ns, rfl, .inr (.inl (.inl (sg _ _ ha))), h0, by omega, hn, fun H1 s1 => ?_⟩
        have g := (Grow.refl sg (m := no)).heap s1
        walk_at "r"
        exact ⟨a, ns, G, rfl, g.gh, .inr ha, h0, by omega, fun q G2 H2 e2 hp => k q G2 H2 (g.trans e2) hp⟩
abbrev st_machine_of : Stmt := topS 62
abbrev N_machine_of : List Str := ["thing"]
theorem sc_machine_of : FnScope N_machine_of ["thing"] (defScope st_machine_of) := ⟨rfl, rfl, rfl, by decide +kernel, rfl, by decide +kernel, by decide +kernel⟩
theorem ok_machine_of (T : Top K mg) (pc : PC K mg C_Pattern) (F : Dn K mg "machine_of" st_machine_of) {D : Nat} (c_as_pattern : Cal P w K mg base 4 "as_pattern" (spAsPat C_Pattern)) (c_made_machine : Cal P w K mg base (D + 3) "made_machine" (spMade CM D)) : Cal P w K mg base (D + 5) "machine_of" (spMachOf C_Pattern CM D) := by
  refine F.cal sc_machine_of (fun vs H Q E h => ?_) (fun _ _ _ _ _ _ us hl => match us, hl with | [_], _ => rfl) (fun f cdv A outer s H vs Q E hr h => ?_)
  · obtain ⟨a, t, G, rfl, _⟩ := h
    rfl
  · obtain ⟨a, t, G, rfl, sg, ha, hd, hd6, hl, k⟩ := h
    refine ⟨_, (pss_one (ps_ret (C8.pe_c c_made_machine hr (by omega) rfl (pa_cons (pe_fld (C8.pe_c c_as_pattern hr (by omega) rfl (pa_cons (pv 0) pa_nil)) rfl) pa_nil)))), ?_⟩
    walk_at "r"
    refine ⟨a, t, G, rfl, sg, ha, by omega, fun q G1 H1 e1 hp => ?_⟩
    obtain ⟨da, fa, va, a1, a2, a3⟩ := hp.ex
    refine r_field pc.c (by decide) (e1.at a1) a2 ?_
    walk_at "r"
    exact ⟨va, t, G1, rfl, e1.gh, a3, hd, hd6, hl, fun q2 G2 H2 e2 hm => k q2 G2 H2 (e1.trans e2) hm⟩
end
end K48
/-! ## KD20 -/
set_option maxHeartbeats 4000000
namespace K48
open PySem L2
local macro_rules | `(tactic| walk_at "r1") => `(tactic| first
  | with_reducible refine r_seq ?_ | with_reducible refine r_asg ?_ | with_reducible refine r_ret ?_ | with_reducible refine r_drop ?_ | with_reducible refine r_if ?_ | with_reducible refine r_next ?_
  | with_reducible refine r_name ?_ | with_reducible refine r_c ?_ | ((with_reducible show tVar _ _ _ _); refine r_var rfl ?_) | with_reducible refine r_op ?_ | with_reducible refine r_un ?_
  | with_reducible refine r_i0 ?_ | with_reducible refine r_test ?_ | with_reducible refine r_tB ?_ | with_reducible refine r_bl ?_ | with_reducible refine r_and ?_ | with_reducible refine r_or ?_
  | with_reducible refine r_not ?_ | with_reducible refine r_ifE ?_ | with_reducible refine r_cons ?_ | with_reducible refine r_nil ?_ | with_reducible refine r_cb ?_ | with_reducible refine r_call ?_
  | with_reducible refine r_lstG ?_ | with_reducible refine r_tupG ?_ | with_reducible refine r_sl ?_ | with_reducible refine r_noP ?_ | with_reducible refine r_part ?_ | with_reducible refine r_exI ?_
  | with_reducible refine r_tr ?_ | with_reducible refine r_fa ?_ | with_reducible refine r_for ?_ | with_reducible refine r_iList ?_ | with_reducible refine r_iTup ?_ | with_reducible refine r_iStr ?_
  | with_reducible refine r_iR1 ?_ | with_reducible refine r_iR2 ?_ | with_reducible refine r_lc ?_ | with_reducible refine r_nt ?_ | with_reducible refine r_nf ?_ | with_reducible refine r_orV ?_ | with_reducible refine r_andV ?_ | with_reducible refine r_yesT ?_ | with_reducible refine r_gsub ?_ | with_reducible refine r_gcons ?_ | with_reducible refine r_gnil ?_ | with_reducible refine r_bm ?_ | with_reducible refine r_bm0 ?_
  | with_reducible refine r_fldG ?_ | with_reducible refine r_sfldG ?_ | with_reducible refine r_meth ?_ | with_reducible refine r_make ?_ | with_reducible refine r_dget ?_ | with_reducible refine r_din ?_ | with_reducible refine r_dnin ?_ | with_reducible refine r_dput ?_
  | with_reducible refine r_dgetN ?_ | with_reducible refine r_dinN ?_ | with_reducible refine r_dninN ?_ | with_reducible refine r_dputN ?_ | ((with_reducible show tAug _ _ _ _ _ _); refine r_aug rfl ?_) | with_reducible refine r_par ?_ | with_reducible refine r_neg ?_ | with_reducible refine r_iEnum ?_ | with_reducible refine r_iZip ?_ | with_reducible refine r_iZipA ?_)
local macro_rules | `(tactic| walk_at "r") => `(tactic| repeat walk_at "r1")

def spLAtom (CP : Addr) : Sp := fun vs H Q _ => ∃ (a : Addr) (b : Bool) (ns : List Str) (G : Hp), vs = [.str (kindS b), .ref a] ∧ Same G H ∧ StrL G a ns ∧ ns.length ≤ 3 ∧ (b = true → ns ≠ []) ∧ (∀ z ∈ ns, IsNm z) ∧ QPat CP G H (.atom b ns) Q
def spLPat (CP : Addr) (D : Nat) : Sp := fun vs H Q _ => ∃ (v : V) (t : PTree Str) (G : Hp), vs = [v] ∧ Same G H ∧ TreeAt G true t v ∧ TreeOk t ∧ t.depth < D ∧ QPat CP G H t Q
def spAsking (CP : Addr) : Sp := fun vs H Q _ => ∃ (p q : Addr) (G : Hp) (posts : List Str) (lanes : List (Lane Str)) (n : Nat), vs = [V.ref p, V.ref q, .int 2] ∧ Same G H ∧ G p = none ∧ Pl H p n ∧ n ≤ 400000000000 ∧ PartsAt G q posts lanes ∧ NetD posts lanes ∧ lanes ≠ [] ∧
  ∀ (r th : Addr) (tv : V) (t : PTree Str) (G' H' : Hp), Dg p (n + 1000) G H G' H' → G' r = some (.tup [.ref th, tv]) → ThingAt CP G' th t → TreeAt G' true t tv → t.depth ≤ 4 → t.leaves ≤ 5 → Q (.ref r) H'
section
variable {P : Program} {w : World} {K : PySem.W.Frag} {mg : Str → Option Value} {base : Heap} {CM C_Pattern : Addr}
abbrev st__law_atom : Stmt := topS 84
abbrev N__law_atom : List Str := ["_law_kind", "_law_names"]
theorem sc__law_atom : FnScope N__law_atom ["_law_kind", "_law_names"] (defScope st__law_atom) := ⟨rfl, rfl, rfl, by decide +kernel, rfl, by decide +kernel, by decide +kernel⟩
theorem ok__law_atom (T : Top K mg) (F : Dn K mg "_law_atom" st__law_atom) (c_any_of : Str1 P w K mg base 3 "any_of" (spAnyOf C_Pattern)) (c_none_of : Str1 P w K mg base 3 "none_of" (spNoneOf C_Pattern)) : Cal P w K mg base 4 "_law_atom" (spLAtom C_Pattern) := by
  refine F.cal sc__law_atom (fun vs H Q E h => ?_) (fun _ _ _ _ _ _ us hl => match us, hl with | [_, _], _ => rfl) (fun f cdv A outer s H vs Q E hr h => ?_)
  · obtain ⟨a, b, ns, G, rfl, _⟩ := h
    rfl
  · obtain ⟨a, b, ns, G, rfl, sg, ha, h3, h0, hn, k⟩ := h
    have e0 : decide (V.str (kindS b) = V.str (Str.ofString "any")) = b := by
      cases b with
      | true => exact decide_eq_true rfl
      | false => exact decide_eq_false (by decide)
    refine ⟨_, (pss_cons (ps_if (pt_cmpR op_eq (pe_callB (call_len_seq : CallR _ _ (rLenQ K)) rfl T.b_len (by decide +kernel) (pa_cons (pv 1) pa_nil)) pe_int (nomark _)) (pss_one (ps_ret (pe_starcall0 c_none_of hr (by omega) rfl))) pss_nil)
  (pss_cons (ps_if (pt_cmpR op_eq (pe_callB (call_len_seq : CallR _ _ (rLenQ K)) rfl T.b_len (by decide +kernel) (pa_cons (pv 1) pa_nil)) pe_int (nomark _)) (pss_one (ps_ret (pe_ifExp (pt_cmpR op_eq (pv 0) pe_str (nomark _)) (pe_starcall c_any_of hr (by omega) rfl (pa_cons (pe_ix ix_list (pv 1) pe_int (fun _ _ => rfl)) pa_nil)) (pe_starcall c_none_of hr (by omega) rfl (pa_cons (pe_ix ix_list (pv 1) pe_int (fun _ _ => rfl)) pa_nil))))) pss_nil)
  (pss_cons (ps_if (pt_cmpR op_eq (pe_callB (call_len_seq : CallR _ _ (rLenQ K)) rfl T.b_len (by decide +kernel) (pa_cons (pv 1) pa_nil)) pe_int (nomark _)) (pss_one (ps_ret (pe_ifExp (pt_cmpR op_eq (pv 0) pe_str (nomark _)) (pe_starcall c_any_of hr (by omega) rfl (pa_cons (pe_ix ix_list (pv 1) pe_int (fun _ _ => rfl)) (pa_cons (pe_ix ix_list (pv 1) pe_int (fun _ _ => rfl)) pa_nil))) (pe_starcall c_none_of hr (by omega) rfl (pa_cons (pe_ix ix_list (pv 1) pe_int (fun _ _ => rfl)) (pa_cons (pe_ix ix_list (pv 1) pe_int (fun _ _ => rfl)) pa_nil)))))) pss_nil)
  (pss_one (ps_ret (pe_ifExp (pt_cmpR op_eq (pv 0) pe_str (nomark _)) (pe_starcall c_any_of hr (by omega) rfl (pa_cons (pe_ix ix_list (pv 1) pe_int (fun _ _ => rfl)) (pa_cons (pe_ix ix_list (pv 1) pe_int (fun _ _ => rfl)) (pa_cons (pe_ix ix_list (pv 1) pe_int (fun _ _ => rfl)) pa_nil)))) (pe_starcall c_none_of hr (by omega) rfl (pa_cons (pe_ix ix_list (pv 1) pe_int (fun _ _ => rfl)) (pa_cons (pe_ix ix_list (pv 1) pe_int (fun _ _ => rfl)) (pa_cons (pe_ix ix_list (pv 1) pe_int (fun _ _ => rfl)) pa_nil)))))))))), ?_⟩
    match ns, h3 with
    | [], _ =>
      have hb : b = false := by
        cases b with
        | true => exact absurd rfl (h0 rfl)
        | false => rfl
      subst hb
      walk_at "r"
      refine r_lenQL (sg _ _ ha) ?_
      walk_at "r"
      refine r_eq rfl ?_
      walk_at "r"
      refine r_yes rfl ?_
      walk_at "r"
      exact ⟨[], G, rfl, sg, by decide, hn, k⟩
    | [x], _ =>
      walk_at "r"
      refine r_lenQL (sg _ _ ha) ?_
      walk_at "r"
      refine r_eq rfl ?_
      walk_at "r"
      refine r_no rfl ?_
      walk_at "r"
      refine r_lenQL (sg _ _ ha) ?_
      walk_at "r"
      refine r_eq rfl ?_
      walk_at "r"
      refine r_yes rfl ?_
      walk_at "r"
      refine r_eq rfl ?_
      walk_at "r"
      rw [e0]
      cases b with
      | true =>
        walk_at "r"
        refine r_ixL (j := 0) (sg _ _ ha) rfl ?_
        walk_at "r"
        exact ⟨[x], G, rfl, sg, by simp, by simp, hn, k⟩
      | false =>
        walk_at "r"
        refine r_ixL (j := 0) (sg _ _ ha) rfl ?_
        walk_at "r"
        exact ⟨[x], G, rfl, sg, by simp, hn, k⟩
    | [x, y], _ =>
      walk_at "r"
      refine r_lenQL (sg _ _ ha) ?_
      walk_at "r"
      refine r_eq rfl ?_
      walk_at "r"
      refine r_no rfl ?_
      walk_at "r"
      refine r_lenQL (sg _ _ ha) ?_
      walk_at "r"
      refine r_eq rfl ?_
      walk_at "r"
      refine r_no rfl ?_
      walk_at "r"
      refine r_lenQL (sg _ _ ha) ?_
      walk_at "r"
      refine r_eq rfl ?_
      walk_at "r"
      refine r_yes rfl ?_
      walk_at "r"
      refine r_eq rfl ?_
      walk_at "r"
      rw [e0]
      cases b with
      | true =>
        walk_at "r"
        refine r_ixL (j := 0) (sg _ _ ha) rfl ?_
        walk_at "r"
        refine r_ixL (j := 1) (sg _ _ ha) rfl ?_
        walk_at "r"
        exact ⟨[x, y], G, rfl, sg, by simp, by simp, hn, k⟩
      | false =>
        walk_at "r"
        refine r_ixL (j := 0) (sg _ _ ha) rfl ?_
        walk_at "r"
        refine r_ixL (j := 1) (sg _ _ ha) rfl ?_
        walk_at "r"
        exact ⟨[x, y], G, rfl, sg, by simp, hn, k⟩
    | [x, y, z], _ =>
      walk_at "r"
      refine r_lenQL (sg _ _ ha) ?_
      walk_at "r"
      refine r_eq rfl ?_
      walk_at "r"
      refine r_no rfl ?_
      walk_at "r"
      refine r_lenQL (sg _ _ ha) ?_
      walk_at "r"
      refine r_eq rfl ?_
      walk_at "r"
      refine r_no rfl ?_
      walk_at "r"
      refine r_lenQL (sg _ _ ha) ?_
      walk_at "r"
      refine r_eq rfl ?_
      walk_at "r"
      refine r_no rfl ?_
      walk_at "r"
      refine r_eq rfl ?_
      walk_at "r"
      rw [e0]
      cases b with
      | true =>
        walk_at "r"
        refine r_ixL (j := 0) (sg _ _ ha) rfl ?_
        walk_at "r"
        refine r_ixL (j := 1) (sg _ _ ha) rfl ?_
        walk_at "r"
        refine r_ixL (j := 2) (sg _ _ ha) rfl ?_
        walk_at "r"
        exact ⟨[x, y, z], G, rfl, sg, by simp, by simp, hn, k⟩
      | false =>
        walk_at "r"
        refine r_ixL (j := 0) (sg _ _ ha) rfl ?_
        walk_at "r"
        refine r_ixL (j := 1) (sg _ _ ha) rfl ?_
        walk_at "r"
        refine r_ixL (j := 2) (sg _ _ ha) rfl ?_
        walk_at "r"
        exact ⟨[x, y, z], G, rfl, sg, by simp, hn, k⟩
abbrev st__law_pattern : Stmt := topS 85
abbrev N__law_pattern : List Str := ["_law_tree_here", "_law_one", "_law_two"]
theorem sc__law_pattern : FnScope N__law_pattern ["_law_tree_here"] (defScope st__law_pattern) := ⟨rfl, rfl, rfl, by decide +kernel, rfl, by decide +kernel, by decide +kernel⟩
theorem ok__law_pattern (T : Top K mg) (F : Dn K mg "_law_pattern" st__law_pattern) (c__law_atom : Cal P w K mg base 4 "_law_atom" (spLAtom C_Pattern)) (c_repeated : Cal P w K mg base 3 "repeated" (spPat1 C_Pattern .rep)) (c_optional : Cal P w K mg base 3 "optional" (spPat1 C_Pattern .opt))
    (c_or : Spc P w K mg base 3 C_Pattern "__or__" (spPat2 C_Pattern .either)) (c_add : Spc P w K mg base 3 C_Pattern "__add__" (spPat2 C_Pattern .join)) : ∀ D, Cal P w K mg base (D + 5) "_law_pattern" (spLPat C_Pattern D) := by
  intro D
  induction D with
  | zero =>
    refine F.cal sc__law_pattern (fun vs H Q E h => ?_) (fun _ _ _ _ _ _ us hl => match us, hl with | [_], _ => rfl) (fun f cdv A outer s H vs Q E hr h => ?_)
    · obtain ⟨v, t, G, rfl, _⟩ := h
      rfl
    · obtain ⟨v, t, G, rfl, _, _, _, h, _⟩ := h
      exact absurd h (Nat.not_lt_zero _)
  | succ D c__law_pattern =>
    refine F.cal sc__law_pattern (fun vs H Q E h => ?_) (fun _ _ _ _ _ _ us hl => match us, hl with | [_], _ => rfl) (fun f cdv A outer s H vs Q E hr h => ?_)
    · obtain ⟨v, t, G, rfl, _⟩ := h
      rfl
    · obtain ⟨v, t, G, rfl, sg, ht, hok, hd, k⟩ := h
      have g0 := Grow.refl sg (m := no)
      rcases ht.cases with ⟨b, ns, a, c, rfl, ha, hc, rfl⟩ | ⟨b, t1, a, x, rfl, ha, hx, rfl⟩ | ⟨b, t1, t2, a, x, y, rfl, ha, hx, hy, rfl⟩
      · refine ⟨_, (pss_cons (ps_if (pt_cmpR op_in_seq (pe_ix ix_tup (pv 0) pe_int (fun _ _ => rfl)) (pe_tup (pa_cons pe_str (pa_cons pe_str pa_nil))) (by rfl)) (pss_one (ps_ret (C8.pe_c c__law_atom hr (by omega) rfl (pa_cons (pe_ix ix_tup (pv 0) pe_int (fun _ _ => rfl)) (pa_cons (pe_ix ix_tup (pv 0) pe_int (fun _ _ => rfl)) pa_nil))))) pss_nil)
  (pss_cons (ps_set (i := 1) sc__law_pattern.nd rfl (Or.inl rfl) (C8.pe_c c__law_pattern hr (by omega) rfl (pa_cons (pe_ix ix_tup (pv 0) pe_int (fun _ _ => rfl)) pa_nil)))
  (pss_cons (ps_if (pt_cmpR op_eq (pe_ix ix_tup (pv 0) pe_int (fun _ _ => rfl)) pe_str (nomark _)) (pss_one (ps_ret (C8.pe_c c_repeated hr (by omega) rfl (pa_cons (pv 1) pa_nil)))) pss_nil)
  (pss_cons (ps_if (pt_cmpR op_eq (pe_ix ix_tup (pv 0) pe_int (fun _ _ => rfl)) pe_str (nomark _)) (pss_one (ps_ret (C8.pe_c c_optional hr (by omega) rfl (pa_cons (pv 1) pa_nil)))) pss_nil)
  (pss_cons (ps_set (i := 2) sc__law_pattern.nd rfl (Or.inl rfl) (C8.pe_c c__law_pattern hr (by omega) rfl (pa_cons (pe_ix ix_tup (pv 0) pe_int (fun _ _ => rfl)) pa_nil)))
  (pss_one (ps_ret (pe_ifExp (pt_cmpR op_eq (pe_ix ix_tup (pv 0) pe_int (fun _ _ => rfl)) pe_str (nomark _)) (pe_op (op_own (op := .BitOr) c_or hr (by omega)) (pv 1) (pv 2)) (pe_op (op_own (op := .Add) c_add hr (by omega)) (pv 1) (pv 2)))))))))), ?_⟩
        walk_at "r"
        refine r_ixT (j := 0) (g0.at ha) rfl ?_
        walk_at "r"
        refine e_tup g0.gh rfl fun p1 G1 H1 e1 hp1 _ => ?_
        refine r_inS (ks := ["any", "none"]) (.inr (.inl (.inl (e1.at hp1)))) ?_
        walk_at "r"
        refine r_yes (by cases b <;> decide) ?_
        walk_at "r"
        refine r_ixT (j := 0) (e1.at (e1.gg _ _ ha)) rfl ?_
        walk_at "r"
        refine r_ixT (j := 1) (e1.at (e1.gg _ _ ha)) rfl ?_
        walk_at "r"
        have ok : ns.length ≤ 3 ∧ (b = true → ns ≠ []) ∧ ∀ z ∈ ns, IsNm z := by
          cases b with
          | true => exact ⟨hok.2.1, fun _ => hok.1, hok.2.2⟩
          | false => exact ⟨hok.1, (fun z => by cases z), hok.2⟩
        exact ⟨c, b, ns, G1, rfl, e1.gh, e1.gg _ _ hc, ok.1, ok.2.1, ok.2.2, fun q G2 H2 e2 hp => k q G2 H2 (e1.trans e2) hp⟩
      · obtain ⟨ol, od⟩ := PTree.leaves_one b t1
        have hok1 : TreeOk t1 := by cases b <;> exact hok
        refine ⟨_, (pss_cons (ps_if (pt_cmpR op_in_seq (pe_ix ix_tup (pv 0) pe_int (fun _ _ => rfl)) (pe_tup (pa_cons pe_str (pa_cons pe_str pa_nil))) (by rfl)) (pss_one (ps_ret (C8.pe_c c__law_atom hr (by omega) rfl (pa_cons (pe_ix ix_tup (pv 0) pe_int (fun _ _ => rfl)) (pa_cons (pe_ix ix_tup (pv 0) pe_int (fun _ _ => rfl)) pa_nil))))) pss_nil)
  (pss_cons (ps_set (i := 1) sc__law_pattern.nd rfl (Or.inl rfl) (C8.pe_c c__law_pattern hr (by omega) rfl (pa_cons (pe_ix ix_tup (pv 0) pe_int (fun _ _ => rfl)) pa_nil)))
  (pss_cons (ps_if (pt_cmpR op_eq (pe_ix ix_tup (pv 0) pe_int (fun _ _ => rfl)) pe_str (nomark _)) (pss_one (ps_ret (C8.pe_c c_repeated hr (by omega) rfl (pa_cons (pv 1) pa_nil)))) pss_nil)
  (pss_cons (ps_if (pt_cmpR op_eq (pe_ix ix_tup (pv 0) pe_int (fun _ _ => rfl)) pe_str (nomark _)) (pss_one (ps_ret (C8.pe_c c_optional hr (by omega) rfl (pa_cons (pv 1) pa_nil)))) pss_nil)
  (pss_cons (ps_set (i := 2) sc__law_pattern.nd rfl (Or.inl rfl) (C8.pe_c c__law_pattern hr (by omega) rfl (pa_cons (pe_ix ix_tup (pv 0) pe_int (fun _ _ => rfl)) pa_nil)))
  (pss_one (ps_ret (pe_ifExp (pt_cmpR op_eq (pe_ix ix_tup (pv 0) pe_int (fun _ _ => rfl)) pe_str (nomark _)) (pe_op (op_own (op := .BitOr) c_or hr (by omega)) (pv 1) (pv 2)) (pe_op (op_own (op := .Add) c_add hr (by omega)) (pv 1) (pv 2)))))))))), ?_⟩
        walk_at "r"
        refine r_ixT (j := 0) (g0.at ha) rfl ?_
        walk_at "r"
        refine e_tup g0.gh rfl fun p1 G1 H1 e1 hp1 _ => ?_
        refine r_inS (ks := ["any", "none"]) (.inr (.inl (.inl (e1.at hp1)))) ?_
        walk_at "r"
        refine r_no (by cases b <;> decide) ?_
        walk_at "r"
        refine r_ixT (j := 1) (e1.at (e1.gg _ _ ha)) rfl ?_
        walk_at "r"
        refine ⟨x, t1, G1, rfl, e1.gh, hx.mono e1.gg, hok1, by omega, fun q1 G2 H2 e2 hp => ?_⟩
        have e := e1.trans e2
        walk_at "r"
        refine r_ixT (j := 0) (e.at (e.gg _ _ ha)) rfl ?_
        walk_at "r"
        refine r_eq rfl ?_
        walk_at "r"
        cases b with
        | true =>
          refine r_yes (by decide) ?_
          walk_at "r"
          exact ⟨q1, t1, G2, rfl, e.gh, hp, fun q G3 H3 e3 hq => k q G3 H3 (e.trans e3) hq⟩
        | false =>
          refine r_no (by decide) ?_
          walk_at "r"
          refine r_ixT (j := 0) (e.at (e.gg _ _ ha)) rfl ?_
          walk_at "r"
          refine r_eq rfl ?_
          walk_at "r"
          refine r_yes (by decide) ?_
          walk_at "r"
          exact ⟨q1, t1, G2, rfl, e.gh, hp, fun q G3 H3 e3 hq => k q G3 H3 (e.trans e3) hq⟩
      · obtain ⟨ol, od⟩ := PTree.leaves_two b t1 t2
        have hok1 : TreeOk t1 ∧ TreeOk t2 := by cases b <;> exact hok
        refine ⟨_, (pss_cons (ps_if (pt_cmpR op_in_seq (pe_ix ix_tup (pv 0) pe_int (fun _ _ => rfl)) (pe_tup (pa_cons pe_str (pa_cons pe_str pa_nil))) (by rfl)) (pss_one (ps_ret (C8.pe_c c__law_atom hr (by omega) rfl (pa_cons (pe_ix ix_tup (pv 0) pe_int (fun _ _ => rfl)) (pa_cons (pe_ix ix_tup (pv 0) pe_int (fun _ _ => rfl)) pa_nil))))) pss_nil)
  (pss_cons (ps_set (i := 1) sc__law_pattern.nd rfl (Or.inl rfl) (C8.pe_c c__law_pattern hr (by omega) rfl (pa_cons (pe_ix ix_tup (pv 0) pe_int (fun _ _ => rfl)) pa_nil)))
  (pss_cons (ps_if (pt_cmpR op_eq (pe_ix ix_tup (pv 0) pe_int (fun _ _ => rfl)) pe_str (nomark _)) (pss_one (ps_ret (C8.pe_c c_repeated hr (by omega) rfl (pa_cons (pv 1) pa_nil)))) pss_nil)
  (pss_cons (ps_if (pt_cmpR op_eq (pe_ix ix_tup (pv 0) pe_int (fun _ _ => rfl)) pe_str (nomark _)) (pss_one (ps_ret (C8.pe_c c_optional hr (by omega) rfl (pa_cons (pv 1) pa_nil)))) pss_nil)
  (pss_cons (ps_set (i := 2) sc__law_pattern.nd rfl (Or.inl rfl) (C8.pe_c c__law_pattern hr (by omega) rfl (pa_cons (pe_ix ix_tup (pv 0) pe_int (fun _ _ => rfl)) pa_nil)))
  (pss_one (ps_ret (pe_ifExp (pt_cmpR op_eq (pe_ix ix_tup (pv 0) pe_int (fun _ _ => rfl)) pe_str (nomark _)) (pe_op (op_own (op := .BitOr) c_or hr (by omega)) (pv 1) (pv 2)) (pe_op (op_own (op := .Add) c_add hr (by omega)) (pv 1) (pv 2)))))))))), ?_⟩
        walk_at "r"
        refine r_ixT (j := 0) (g0.at ha) rfl ?_
        walk_at "r"
        refine e_tup g0.gh rfl fun p1 G1 H1 e1 hp1 _ => ?_
        refine r_inS (ks := ["any", "none"]) (.inr (.inl (.inl (e1.at hp1)))) ?_
        walk_at "r"
        refine r_no (by cases b <;> decide) ?_
        walk_at "r"
        refine r_ixT (j := 1) (e1.at (e1.gg _ _ ha)) rfl ?_
        walk_at "r"
        refine ⟨x, t1, G1, rfl, e1.gh, hx.mono e1.gg, hok1.1, by omega, fun q1 G2 H2 e2 hp => ?_⟩
        have e := e1.trans e2
        walk_at "r"
        refine r_ixT (j := 0) (e.at (e.gg _ _ ha)) rfl ?_
        walk_at "r"
        refine r_eq rfl ?_
        walk_at "r"
        refine r_no (by cases b <;> decide) ?_
        walk_at "r"
        refine r_ixT (j := 0) (e.at (e.gg _ _ ha)) rfl ?_
        walk_at "r"
        refine r_eq rfl ?_
        walk_at "r"
        refine r_no (by cases b <;> decide) ?_
        walk_at "r"
        refine r_ixT (j := 2) (e.at (e.gg _ _ ha)) rfl ?_
        walk_at "r"
        refine ⟨y, t2, G2, rfl, e.gh, hy.mono e.gg, hok1.2, by omega, fun q2 G3 H3 e3 hp2 => ?_⟩
        have e' := e.trans e3
        have hp := hp.mono e3.gg
        obtain ⟨da, fa, va, a1, a2, a3⟩ := hp.ex
        obtain ⟨db, fb, vb, b1, b2, b3⟩ := hp2.ex
        walk_at "r"
        refine r_ixT (j := 0) (e'.at (e'.gg _ _ ha)) rfl ?_
        walk_at "r"
        refine r_eq rfl ?_
        walk_at "r"
        cases b with
        | true =>
          refine r_yes (by decide) ?_
          walk_at "r"
          exact ⟨q1, q2, _, _, _, _, rfl, rfl, e'.at a1, e'.at b1, q1, q2, t1, t2, G3, rfl, e'.gh, hp, hp2, fun q G4 H4 e4 hq => k q G4 H4 (e'.trans e4) hq⟩
        | false =>
          refine r_no (by decide) ?_
          walk_at "r"
          exact ⟨q1, q2, _, _, _, _, rfl, rfl, e'.at a1, e'.at b1, q1, q2, t1, t2, G3, rfl, e'.gh, hp, hp2, fun q G4 H4 e4 hq => k q G4 H4 (e'.trans e4) hq⟩
abbrev st__law_asking : Stmt := topS 93
abbrev N__law_asking : List Str := ["_law_pool_here", "_law_parts", "_law_depth", "_law_told_here", "_law_tree_here"]
theorem sc__law_asking : FnScope N__law_asking ["_law_pool_here", "_law_parts", "_law_depth"] (defScope st__law_asking) := ⟨rfl, rfl, rfl, by decide +kernel, rfl, by decide +kernel, by decide +kernel⟩
theorem ok__law_asking (T : Top K mg) (F : Dn K mg "_law_asking" st__law_asking) (c__law_take : Cal P w K mg base 1 "_law_take" spTake) (c__law_stretch : Cal P w K mg base 2 "_law_stretch" spStretch) (c__law_row_tree : Cal P w K mg base 1 "_law_row_tree" spRowTree)
    (c__law_lanes : Cal P w K mg base 1 "_law_lanes" spLanesL) {D1 D2 : Nat} (hD1 : 2 < D1) (hD2 : 2 < D2) (hD1b : D1 ≤ 9) (hD2b : D2 ≤ 9) (c__law_tree : Cal P w K mg base (D1 + 2) "_law_tree" (spTree D1)) (c__law_pattern : Cal P w K mg base (D2 + 5) "_law_pattern" (spLPat C_Pattern D2)) : Cal P w K mg base 15 "_law_asking" (spAsking C_Pattern) := by
  refine F.cal sc__law_asking (fun vs H Q E h => ?_) (fun _ _ _ _ _ _ us hl => match us, hl with | [_, _, _], _ => rfl) (fun f cdv A outer s H vs Q E hr h => ?_)
  · obtain ⟨p, q, G, posts, lanes, n, rfl, _⟩ := h
    rfl
  · obtain ⟨p, q, G, posts, lanes, n, rfl, sg, gp, hp, hn, hparts, hnet, hl0, k⟩ := h
    have d := Dg.refl sg hp gp
    refine ⟨_, (pss_cons (ps_if (pt_cmpR op_eq (C8.pe_c c__law_take hr (by omega) rfl (pa_cons (pv 0) (pa_cons pe_int pa_nil))) pe_int (nomark _)) (pss_cons (ps_set (i := 3) sc__law_asking.nd rfl (Or.inl rfl) (C8.pe_c c__law_stretch hr (by omega) rfl (pa_cons (pv 0) (pa_cons (pv 1) (pa_cons pe_int pa_nil)))))
  (pss_one (ps_ret (pe_tup (pa_cons (pe_ix ix_list (pe_lst (pa_cons (pe_callTy (call_tuple_of : CallR _ _ (rTupQ K)) rfl T.b_tuple (by decide +kernel) (pa_cons (pv 3) pa_nil)) (pa_cons (pe_callTy (call_list_of : CallR _ _ (rListQ K)) rfl T.b_list (by decide +kernel) (pa_cons (pv 3) pa_nil)) pa_nil))) (C8.pe_c c__law_take hr (by omega) rfl (pa_cons (pv 0) (pa_cons pe_int pa_nil))) (fun _ _ => rfl)) (pa_cons (C8.pe_c c__law_row_tree hr (by omega) rfl (pa_cons (pv 3) pa_nil)) pa_nil)))))) pss_nil)
  (pss_cons (ps_set (i := 4) sc__law_asking.nd rfl (Or.inl rfl) (C8.pe_c c__law_tree hr (by omega) rfl (pa_cons (pv 0) (pa_cons (C8.pe_c c__law_lanes hr (by omega) rfl (pa_cons (pv 1) pa_nil)) (pa_cons (pv 2) pa_nil)))))
  (pss_one (ps_ret (pe_tup (pa_cons (C8.pe_c c__law_pattern hr (by omega) rfl (pa_cons (pv 4) pa_nil)) (pa_cons (pv 4) pa_nil))))))), ?_⟩
    walk_at "r"
    refine r_tk (mm := 2) d (by decide) (by decide) (by omega) fun r1 o1 hr1 d => ?_
    walk_at "r"
    refine r_eq rfl ?_
    walk_at "r"
    by_cases c : decide (V.int (r1 : Int) = V.int 0) = true
    · refine r_yes c ?_
      walk_at "r"
      refine ⟨p, q, G, posts, lanes, n + 1, rfl, d.gr.gh, d.gp, d.pl, by omega, hparts, hnet, hl0, fun tl ns G2 H2 d2 htl hns0 hns5 hns => ?_⟩
      have d := d.trans d2
      have hnm : ∀ z ∈ ns, IsNm z := fun z hz => hnet.ln.nm z (hns z hz)
      walk_at "r"
      refine e_tupQ d.gr.gh (d.at htl) fun a1 G3 H3 e3 ha1 _ => ?_
      have d := d.grow e3
      walk_at "r"
      refine e_listQ d.gr.gh (d.at (e3.gg _ _ htl)) fun a2 G4 H4 e4 ha2 _ => ?_
      have d := d.grow e4
      walk_at "r"
      refine e_lst d.gr.gh rfl fun a3 G5 H5 e5 ha3 _ => ?_
      have d := d.grow e5
      have s5 := (e3.gg.trans e4.gg).trans e5.gg
      walk_at "r"
      refine r_tk (mm := 2) d (by decide) (by decide) (by omega) fun r2 o2 hr2 d => ?_
      have pick : ∃ th, [V.ref a1, .ref a2][r2]? = some (.ref th) ∧ (StrL G5 th ns ∨ StrT G5 th ns) := by
        match r2, hr2 with
        | 0, _ => exact ⟨a1, rfl, .inr ((e4.gg.trans e5.gg) _ _ ha1)⟩
        | 1, _ => exact ⟨a2, rfl, .inl (e5.gg _ _ ha2)⟩
      obtain ⟨th, hth, hth2⟩ := pick
      refine r_ixL (d.at ha3) hth ?_
      walk_at "r"
      refine ⟨tl, ns, G5, rfl, d.gr.gh, s5 _ _ htl, hns0, by omega, fun tv G6 H6 e6 htv => ?_⟩
      have d := d.grow e6
      walk_at "r"
      refine e_tup d.gr.gh rfl fun r G7 H7 e7 hr7 _ => ?_
      have d := d.grow e7
      have s67 := e6.gg.trans e7.gg
      obtain ⟨l1, l2⟩ := rowT_leaves hns0
      refine k r th tv (rowT ns) G7 H7 (d.mono (by omega)) hr7 (.row (hth2.imp (s67 _ _) (s67 _ _)) hns0 hnm) (htv.mono e7.gg) (by omega) (by omega)
    · refine r_no (eq_false_of_ne_true c) ?_
      walk_at "r"
      refine ⟨q, G, posts, lanes, rfl, d.gr.gh, hparts, hnet.l8, fun ll H2 s2 hll0 hll => ?_⟩
      have hllh := d.free hll0
      have d := (d.same s2).tell hll hllh
      walk_at "r"
      have hl0' : lanes.map (·.1) ≠ [] := fun z => hl0 (List.map_eq_nil_iff.mp z)
      refine ⟨p, ll, lanes.map (·.1), 2, n + 1, _, rfl, d.gr.gh, d.gp, d.pl, by omega, upd_same, hl0', by rw [List.length_map]; exact hnet.l8, hnet.ln.nm, hD1, Nat.le_refl _, fun tv t G3 H3 d3 htv hok htd htl => ?_⟩
      have d := d.trans d3
      walk_at "r"
      refine ⟨tv, t, G3, rfl, d.gr.gh, htv, hok, by omega, fun pa G4 H4 e4 hpa => ?_⟩
      have d := d.grow e4
      walk_at "r"
      refine e_tup d.gr.gh rfl fun r G5 H5 e5 hr5 _ => ?_
      have d := d.grow e5
      refine k r pa tv t G5 H5 (d.mono (by omega)) hr5 (.pat (hpa.mono e5.gg)) (htv.mono (e4.gg.trans e5.gg)) (by omega) (by omega)
end
end K48
/-! ## KD21 -/
set_option maxHeartbeats 4000000
namespace K48
open PySem L2
local macro_rules | `(tactic| walk_at "r1") => `(tactic| first
  | with_reducible refine r_seq ?_ | with_reducible refine r_asg ?_ | with_reducible refine r_ret ?_ | with_reducible refine r_drop ?_ | with_reducible refine r_if ?_ | with_reducible refine r_next ?_
  | with_reducible refine r_name ?_ | with_reducible refine r_c ?_ | ((with_reducible show tVar _ _ _ _); refine r_var rfl ?_) | with_reducible refine r_op ?_ | with_reducible refine r_un ?_
  | with_reducible refine r_i0 ?_ | with_reducible refine r_test ?_ | with_reducible refine r_tB ?_ | with_reducible refine r_bl ?_ | with_reducible refine r_and ?_ | with_reducible refine r_or ?_
  | with_reducible refine r_not ?_ | with_reducible refine r_ifE ?_ | with_reducible refine r_cons ?_ | with_reducible refine r_nil ?_ | with_reducible refine r_cb ?_ | with_reducible refine r_call ?_
  | with_reducible refine r_lstG ?_ | with_reducible refine r_tupG ?_ | with_reducible refine r_sl ?_ | with_reducible refine r_noP ?_ | with_reducible refine r_part ?_ | with_reducible refine r_exI ?_
  | with_reducible refine r_tr ?_ | with_reducible refine r_fa ?_ | with_reducible refine r_for ?_ | with_reducible refine r_iList ?_ | with_reducible refine r_iTup ?_ | with_reducible refine r_iStr ?_
  | with_reducible refine r_iR1 ?_ | with_reducible refine r_iR2 ?_ | with_reducible refine r_lc ?_ | with_reducible refine r_nt ?_ | with_reducible refine r_nf ?_ | with_reducible refine r_orV ?_ | with_reducible refine r_andV ?_ | with_reducible refine r_yesT ?_ | with_reducible refine r_gsub ?_ | with_reducible refine r_gcons ?_ | with_reducible refine r_gnil ?_ | with_reducible refine r_bm ?_ | with_reducible refine r_bm0 ?_
  | with_reducible refine r_fldG ?_ | with_reducible refine r_sfldG ?_ | with_reducible refine r_meth ?_ | with_reducible refine r_make ?_ | with_reducible refine r_dget ?_ | with_reducible refine r_din ?_ | with_reducible refine r_dnin ?_ | with_reducible refine r_dput ?_
  | with_reducible refine r_dgetN ?_ | with_reducible refine r_dinN ?_ | with_reducible refine r_dninN ?_ | with_reducible refine r_dputN ?_ | ((with_reducible show tAug _ _ _ _ _ _); refine r_aug rfl ?_) | with_reducible refine r_par ?_ | with_reducible refine r_neg ?_ | with_reducible refine r_iEnum ?_ | with_reducible refine r_iZip ?_ | with_reducible refine r_iZipA ?_)
local macro_rules | `(tactic| walk_at "r") => `(tactic| repeat walk_at "r1")

/-! ### nets -/
abbrev netF : List Str := ["order", "ends_by_lane"]
abbrev netM : List Str := ["post", "lane", "start_of", "end_of", "out_of", "copy"]
structure NetAt (CN : Addr) (G : Hp) (a : Addr) (posts : List Str) (lanes : List (Lane Str)) : Prop where
  ex : ∃ dx fs o d kvs, G a = some (.ins CN dx fs) ∧ fld fs "order" = some (.ref o) ∧ fld fs "ends_by_lane" = some (.ref d) ∧ (∀ z ∈ netM, fs.lookup z = none) ∧ StrL G o posts ∧ G d = some (.dK kvs) ∧ Seq2 (EndV G) kvs lanes
theorem NetAt.mono {CN : Addr} {G G' : Hp} (s : Same G G') {a : Addr} {posts : List Str} {lanes : List (Lane Str)} (h : NetAt CN G a posts lanes) : NetAt CN G' a posts lanes := by
  obtain ⟨dx, fs, o, d, kvs, h1, h2, h3, h4, h5, h6, h7⟩ := h.ex
  exact ⟨dx, fs, o, d, kvs, s _ _ h1, h2, h3, h4, s _ _ h5, s _ _ h6, h7.mono fun _ _ => EndV.mono s⟩
/-- a dict as a Net is made of it -/
structure KD (kvs : List (Key × V)) : Prop where
  nd : (kvs.map (·.1)).Nodup
  len : kvs.length ≤ 100
def spNInit (K : PySem.W.Frag) (CN : Addr) : Sp := fun vs H Q _ => ∃ (x dx ov : Addr) (e : V) (xs : List V) (kvs : List (Key × V)), vs = [.ref x, .ref ov, e] ∧ H x = some (.ins CN dx []) ∧ (SqL K H ov xs ∨ SqT K H ov xs) ∧ ((e = .non ∧ kvs = []) ∨ ∃ d, e = .ref d ∧ H d = some (.dK kvs)) ∧ KD kvs ∧
  ∀ (H' : Hp) (fs : List (Str × V)) (o d : Addr), H' x = some (.ins CN dx fs) → (∀ r u, r ≠ x → H r = some u → H' r = some u) → H o = none → H d = none → o ≠ d → H' o = some (.lst xs) → H' d = some (.dK kvs) →
    fld fs "order" = some (.ref o) → fld fs "ends_by_lane" = some (.ref d) → (∀ z ∈ netM, fs.lookup z = none) → Q .non H'
section
variable {P : Program} {w : World} {K : PySem.W.Frag} {mg : Str → Option Value} {base : Heap} {CN : Addr}
theorem r_dc {wi : TI} {g : TG} {tt : TT} {tk tv : TE} {vs : List Nat} {σ : St} {H : Hp} {Q : VK} (k : wi σ H fun J H1 => ∀ D, H1 D = none → ∃ W : Nat → Nat → Hp → Prop, (∃ m, W 0 m (upd H1 D (.dK []))) ∧ ∀ i m H, W i m H →
    (J.stop i H ∧ Q (.ref D) H) ∨ (J.go i H ∧ ∃ Nx : Hp → Prop, (∀ H', Nx H' → ∃ m', m' < m ∧ W (i + 1) m' H') ∧ ∀ x H', J.yld i H x H' → g x (wipe σ vs) H' fun σ2 H2 => wipe σ2 vs = wipe σ vs ∧ tt σ2 H2 fun b H3 =>
      if b = true then tk σ2 H3 fun y H4 => tv σ2 H4 fun z H5 => ∃ kvs k, y = kV k ∧ H5 D = some (.dK kvs) ∧ kvs.length < sizeLine ∧ Nx (upd H5 D (.dK (putK kvs k z))) else Nx H3)) : tDc wi g tt tk tv vs σ H Q := k
theorem take_keys {kvs : List (Key × V)} (h : (kvs.map (·.1)).Nodup) {i : Nat} {k : Key} {v : V} (hi : kvs[i]? = some (k, v)) : putK (kvs.take i) k v = kvs.take (i + 1) ∧ valV kvs k = some v := by
  have hil := List.getElem?_eq_some_iff.mp hi
  have hk : (kvs.map (·.1))[i]? = some k := by rw [List.getElem?_map, hi]; rfl
  refine ⟨?_, ?_⟩
  · rw [take_snoc hi]
    refine putK_new fun z => ?_
    have h2 := h
    rw [← List.take_append_drop i (kvs.map (·.1)), List.nodup_append] at h2
    rw [List.map_take] at z
    refine h2.2.2 k z k ?_ rfl
    have hkl := List.getElem?_eq_some_iff.mp hk
    rw [List.drop_eq_getElem_cons hkl.1, hkl.2]
    exact List.mem_cons_self
  · have gen : ∀ (l : List (Key × V)) (j : Nat), (l.map (·.1)).Nodup → l[j]? = some (k, v) → valV l k = some v := by
      intro l
      induction l with
      | nil => intro j _ hj; simp at hj
      | cons e r ih =>
        intro j hn hj
        rw [List.map_cons, List.nodup_cons] at hn
        rw [valV_cons]
        cases j with
        | zero => cases Option.some.inj hj; rw [if_pos rfl]
        | succ j =>
          have hj : r[j]? = some (k, v) := hj
          rw [if_neg (fun z => hn.1 (List.mem_map.mpr ⟨(k, v), List.mem_of_getElem? hj, z.symm⟩))]
          exact ih j hn.2 hj
    exact gen kvs i h hi
abbrev st_Net_init : Stmt := inClass (topS 30) 0
abbrev N_Net_init : List Str := ["self", "order", "ends_by_lane", "known", "lane"]
theorem sc_Net_init : FnScope N_Net_init ["self", "order", "ends_by_lane"] (defScope st_Net_init) := ⟨rfl, rfl, rfl, by decide +kernel, rfl, by decide +kernel, by decide +kernel⟩
/-- an __init__ with defaults: called with all arguments, or with none -/
structure InG (K : PySem.W.Frag) (mg : Str → Option Value) (x : Str) (C : Addr) (qual : Str) (st : Stmt) (ps : List Str) (et : Addr) : Prop where
  ex : ∃ (f : Addr) (fd : FuncData) (oc : Value) (od : Option Addr) (dV kV doc pm : Value) (an : Option Addr) (cdv ct : Value) (osl : Array (Option Value)),
    fd = PySem.W.fnOf "__init__" qual (defArgs st) (defBody st) (defScope st) dV kV doc pm an cdv ct ∧ K.lookup f = some ⟨oc, od, .func fd, osl⟩ ∧ PySem.W.codeIn K cdv qual = true ∧ Mk K C f ∧ mg x = some (.ref C) ∧ Binds K fd ps [] ∧ Binds K fd ps [.ref et, .none]
theorem InG.mak {x qual : Str} {C et : Addr} {st : Stmt} {ps N : List Str} {k : Nat} {sp : Sp} (F : InG K mg x C qual st ps et) (S : FnScope N ps (defScope st)) (len : ∀ vs H Q E, sp vs H Q E → vs.length = ps.length) (h : Body P w K mg base N qual st k sp) :
    C8.Mak P w K mg base (k + 1) x C sp [] ∧ C8.Mak P w K mg base (k + 1) x C sp [.ref et, .non] := by
  obtain ⟨f, fd, oc, od, dV, kV, doc, pm, an, cdv, ct, osl, rfl, lk, hcd, M, hm, b0, b2⟩ := F.ex
  have ok : FnOk P w K mg base C8.CX0 (k + 1) f (PySem.W.fnOf "__init__" qual (defArgs st) (defBody st) (defScope st) dV kV doc pm an cdv ct) ps sp := by
    refine fn_of lk hcd S len fun A outer s H vs Q E hr q => ?_
    obtain ⟨t, h1, h2⟩ := h f cdv A outer s H vs Q E hr q
    exact ⟨t, h1.nox, h2⟩
  exact ⟨⟨f, _, ps, [], M, ok, hm, b0, .nil⟩, ⟨f, _, ps, _, M, ok, hm, b2, .cons rfl (.cons rfl .nil)⟩⟩
theorem h_listQ {H : Hp} {Q : VK} {p : Addr} {xs : List V} (hq : SqL K H p xs ∨ SqT K H p xs) (k : ∀ q H2, Same H H2 → H2 q = some (.lst xs) → H q = none → Q (.ref q) H2) : rListQ K [.ref p] H Q := ⟨p, xs, rfl, hq, fun l hl => k l _ (same_upd hl) upd_same hl⟩
theorem ok_Net_init (T : Top K mg) (cN : CF K CN netF) {et : Addr} (F : InG K mg "Net" CN "Net.__init__" st_Net_init ["self", "order", "ends_by_lane"] et) : C8.Mak P w K mg base 1 "Net" CN (spNInit K CN) [] ∧ C8.Mak P w K mg base 1 "Net" CN (spNInit K CN) [.ref et, .non] := by
  refine F.mak sc_Net_init (fun vs H Q E h => ?_) (fun f cdv A outer s H vs Q E hr h => ?_)
  · obtain ⟨x, dx, ov, e, xs, kvs, rfl, _⟩ := h
    rfl
  · obtain ⟨x, dx, ov, e, xs, kvs, rfl, hx, hov, he, hkd, k⟩ := h
    refine ⟨_, (pss_cons (ps_set (i := 3) sc_Net_init.nd rfl (Or.inr rfl) (pe_ifExp (pt_cmpR op_isN (pv 2) pe_non (nomark _)) pe_dnewK (pv 2)))
  (pss_cons (ps_fld (pv 0) (pe_callTy (call_list_of : CallR _ _ (rListQ K)) rfl T.b_list (by decide +kernel) (pa_cons (pv 1) pa_nil)) rfl)
  (pss_one (ps_fld (pv 0) (pe_lock (pe_dc (own := [("lane", 4)]) (g := (gName 4)) (tt := tYes) rfl sc_Net_init.nd (pi_keys (pv 3)) (blkOk_by (N := N_Net_init) (sc := defScope st_Net_init) (by decide +kernel)) (fun _ _ _ _ _ => (pg_name (i := 4) sc_Net_init.nd rfl (Or.inl rfl))) (fun _ _ _ _ _ => pts_nil) (fun _ _ _ _ _ => (pv 4)) (fun _ _ _ _ _ => (pe_dget (hu1 hr) (pv 3) (pv 4) (fun _ _ => rfl))))) rfl)))), ?_⟩
    with_reducible show tSeq _ _ _ _ _
    refine r_seqC (fun σ H' => ∃ dk : Addr, Same H H' ∧ H' dk = some (.dK kvs) ∧ σ = [some (.ref x), some (.ref ov), some e, some (.ref dk), none]) ?_ ?_
    · rintro σ H1 ⟨dk, s1, hdk, rfl⟩
      have hov1 : SqL K H1 ov xs ∨ SqT K H1 ov xs := hov.imp s1.seq s1.seqT
      walk_at "r"
      refine h_listQ hov1 fun lo H2 s2 hlo hlo0 => ?_
      walk_at "r"
      have hx2 := s2 _ _ (s1 _ _ hx)
      refine r_setf cN (by decide) hx2 rfl fun H3 hx3 n3 => ?_
      have hxd : dk ≠ x := fun z => by rw [z, s1 _ _ hx] at hdk; cases hdk
      have hxo : lo ≠ x := fun z => by rw [z, hx2] at hlo; cases hlo
      have hdk3 : H3 dk = some (.dK kvs) := (n3 _ hxd).trans (s2 _ _ hdk)
      have hlo3 : H3 lo = some (.lst xs) := (n3 _ hxo).trans hlo
      walk_at "r"
      refine r_lockE ⟨dk, _, hdk3, trivial, fun od => ?_⟩
      refine r_dc ?_
      refine r_iKeys ?_
      walk_at "r"
      refine ⟨dk, od, rfl, .inl ⟨kvs, upd_same, fun Dl hD => ?_⟩⟩
      have hDd : dk ≠ Dl := fun z => by rw [← z, upd_same] at hD; cases hD
      have hD3 : H3 Dl = none := by rw [upd_ne (Ne.symm hDd)] at hD; exact hD
      refine lcx_it (walk_keys (d := dk) (o := od) (kvs := kvs)) (fun i H' => Same (upd H3 dk (.frz od (.dK kvs))) H' ∧ H' Dl = some (.dK (kvs.take i))) ⟨same_upd hD, upd_same⟩ (fun _ _ _ h => h.1 _ _ upd_same) ?_ ?_
      · rintro i v H5' H5 hi ⟨s5, hDl⟩ ⟨rfl, kk, vv, hkv, rfl⟩
        obtain ⟨t1, t2⟩ := take_keys hkd.nd hkv
        have := hkd.len
        walk_at "r"
        refine ⟨rfl, ?_⟩
        walk_at "r"
        refine ⟨dk, vv, rfl, by rw [← t2]; exact DGet.frz (s5 _ _ upd_same), ?_⟩
        refine ⟨kvs.take i, kk, rfl, hDl, by rw [List.length_take]; exact small_lt (by omega), s5.upd_mut hD, ?_⟩
        rw [t1]
        exact upd_same
      · rintro H5 ⟨s5, hDl⟩
        rw [List.take_of_length_le (Nat.le_refl _)] at hDl
        refine ⟨s5 _ _ upd_same, ?_⟩
        have s7 := lock_back hdk3 s5
        have hDl7 : upd H5 dk (.dK kvs) Dl = some (.dK kvs) := by rw [upd_ne (Ne.symm hDd)]; exact hDl
        revert s7 hDl7
        generalize upd H5 dk (.dK kvs) = H7
        intro s7 hDl7
        walk_at "r"
        have hx7 := s7 _ _ hx3
        refine r_setf cN (by decide) hx7 rfl fun H8 hx8 n8 => ?_
        have hDx : Dl ≠ x := fun z => by rw [z, hx7] at hDl7; cases hDl7
        have bk : ∀ r u, r ≠ x → H r = some u → H3 r = some u := fun r u hr e => (n3 r hr).trans (s2 _ _ (s1 _ _ e))
        have nx : ∀ r, r ≠ x → H3 r = none → H r = none := fun r hr hn => by
          cases e : H r with
          | none => rfl
          | some u => rw [bk r u hr e] at hn; cases hn
        refine k H8 _ lo Dl hx8 (fun r u hr e => (n8 r hr).trans (s7 _ _ (bk r u hr e))) ?_ (nx Dl hDx hD3) (fun z => by rw [z, hD3] at hlo3; cases hlo3) ((n8 _ hxo).trans (s7 _ _ hlo3)) ((n8 _ hDx).trans hDl7) rfl rfl (fun z hz => ?_)
        · cases e : H lo with
          | none => rfl
          | some u => rw [s1 _ _ e] at hlo0; cases hlo0
        · rcases List.mem_cons.mp hz with rfl | hz
          · rfl
          rcases List.mem_cons.mp hz with rfl | hz
          · rfl
          rcases List.mem_cons.mp hz with rfl | hz
          · rfl
          rcases List.mem_cons.mp hz with rfl | hz
          · rfl
          rcases List.mem_cons.mp hz with rfl | hz
          · rfl
          rw [List.mem_singleton.mp hz]
          rfl
    · intro R hR
      walk_at "r"
      refine ⟨rfl, ?_⟩
      walk_at "r"
      rcases he with ⟨rfl, rfl⟩ | ⟨d, rfl, hd⟩
      · refine r_yes rfl ?_
        refine fun d hd => ?_
        walk_at "r"
        exact hR _ _ ⟨d, same_upd hd, upd_same, rfl⟩
      · refine r_no rfl ?_
        walk_at "r"
        exact hR _ _ ⟨d, Same.refl H, hd, rfl⟩
end
end K48
/-! ## KD22 -/
set_option maxHeartbeats 4000000
namespace K48
open PySem L2
local macro_rules | `(tactic| walk_at "r1") => `(tactic| first
  | with_reducible refine r_seq ?_ | with_reducible refine r_asg ?_ | with_reducible refine r_ret ?_ | with_reducible refine r_drop ?_ | with_reducible refine r_if ?_ | with_reducible refine r_next ?_
  | with_reducible refine r_name ?_ | with_reducible refine r_c ?_ | ((with_reducible show tVar _ _ _ _); refine r_var rfl ?_) | with_reducible refine r_op ?_ | with_reducible refine r_un ?_
  | with_reducible refine r_i0 ?_ | with_reducible refine r_test ?_ | with_reducible refine r_tB ?_ | with_reducible refine r_bl ?_ | with_reducible refine r_and ?_ | with_reducible refine r_or ?_
  | with_reducible refine r_not ?_ | with_reducible refine r_ifE ?_ | with_reducible refine r_cons ?_ | with_reducible refine r_nil ?_ | with_reducible refine r_cb ?_ | with_reducible refine r_call ?_
  | with_reducible refine r_lstG ?_ | with_reducible refine r_tupG ?_ | with_reducible refine r_sl ?_ | with_reducible refine r_noP ?_ | with_reducible refine r_part ?_ | with_reducible refine r_exI ?_
  | with_reducible refine r_tr ?_ | with_reducible refine r_fa ?_ | with_reducible refine r_for ?_ | with_reducible refine r_iList ?_ | with_reducible refine r_iTup ?_ | with_reducible refine r_iStr ?_
  | with_reducible refine r_iR1 ?_ | with_reducible refine r_iR2 ?_ | with_reducible refine r_lc ?_ | with_reducible refine r_nt ?_ | with_reducible refine r_nf ?_ | with_reducible refine r_orV ?_ | with_reducible refine r_andV ?_ | with_reducible refine r_yesT ?_ | with_reducible refine r_gsub ?_ | with_reducible refine r_gcons ?_ | with_reducible refine r_gnil ?_ | with_reducible refine r_bm ?_ | with_reducible refine r_bm0 ?_
  | with_reducible refine r_fldG ?_ | with_reducible refine r_sfldG ?_ | with_reducible refine r_meth ?_ | with_reducible refine r_make ?_ | with_reducible refine r_dget ?_ | with_reducible refine r_din ?_ | with_reducible refine r_dnin ?_ | with_reducible refine r_dput ?_
  | with_reducible refine r_dgetN ?_ | with_reducible refine r_dinN ?_ | with_reducible refine r_dninN ?_ | with_reducible refine r_dputN ?_ | ((with_reducible show tAug _ _ _ _ _ _); refine r_aug rfl ?_) | with_reducible refine r_par ?_ | with_reducible refine r_neg ?_ | with_reducible refine r_iEnum ?_ | with_reducible refine r_iZip ?_ | with_reducible refine r_iZipA ?_)
local macro_rules | `(tactic| walk_at "r") => `(tactic| repeat walk_at "r1")

def spNPosts (CN : Addr) : Sp := fun vs H Q _ => ∃ (a : Addr) (posts : List Str) (lanes : List (Lane Str)), vs = [.ref a] ∧ NetAt CN H a posts lanes ∧ ∀ (q : Addr) (H' : Hp), Same H H' → H q = none → StrT H' q posts → Q (.ref q) H'
def spNLanes (CN : Addr) : Sp := fun vs H Q _ => ∃ (a : Addr) (posts : List Str) (lanes : List (Lane Str)), vs = [.ref a] ∧ NetAt CN H a posts lanes ∧ lanes.length ≤ 8 ∧ ∀ (q : Addr) (H' : Hp), Same H H' → H q = none → StrT H' q (lanes.map (·.1)) → Q (.ref q) H'
def spNStart (CN : Addr) : Sp := fun vs H Q _ => ∃ (a : Addr) (posts : List Str) (lanes : List (Lane Str)) (e : Lane Str), vs = [.ref a, .str e.1] ∧ NetAt CN H a posts lanes ∧ (lanes.map (·.1)).Nodup ∧ e ∈ lanes ∧ Q (.str e.2.1) H
def spNEnd (CN : Addr) : Sp := fun vs H Q _ => ∃ (a : Addr) (posts : List Str) (lanes : List (Lane Str)) (e : Lane Str), vs = [.ref a, .str e.1] ∧ NetAt CN H a posts lanes ∧ (lanes.map (·.1)).Nodup ∧ e ∈ lanes ∧ Q (.str e.2.2) H
def spNOut (CN : Addr) : Sp := fun vs H Q _ => ∃ (a : Addr) (posts : List Str) (lanes : List (Lane Str)) (p : Str), vs = [.ref a, .str p] ∧ NetAt CN H a posts lanes ∧ NetD posts lanes ∧ p ∈ posts ∧
  ∀ (q : Addr) (H' : Hp), Same H H' → H q = none → StrT H' q ((lanes.filter fun e => decide (e.2.1 = p)).map (·.1)) → Q (.ref q) H'
def flipL (e : Lane Str) : Lane Str := (e.1, e.2.2, e.2.1)
def spNCopy (CN : Addr) (f : List (Lane Str) → List (Lane Str)) : Sp := fun vs H Q _ => ∃ (a : Addr) (posts : List Str) (lanes : List (Lane Str)) (G : Hp), vs = [.ref a] ∧ Same G H ∧ NetAt CN G a posts lanes ∧ (lanes.map (·.1)).Nodup ∧ lanes.length ≤ 8 ∧ ∀ (q : Addr) (G' H' : Hp), Grow no G H G' H' → NetAt CN G' q posts (f lanes) → Q (.ref q) H'
section
variable {P : Program} {w : World} {K : PySem.W.Frag} {mg : Str → Option Value} {base : Heap} {CN : Addr}
theorem endv_kd {G : Hp} {kvs : List (Key × V)} {lanes : List (Lane Str)} (h : Seq2 (EndV G) kvs lanes) (hn : (lanes.map (·.1)).Nodup) (h8 : lanes.length ≤ 8) : KD kvs := by
  refine ⟨?_, by rw [h.1]; omega⟩
  rw [endv_keys h]
  have : (lanes.map fun e => nk e.1) = (lanes.map (·.1)).map nk := by rw [List.map_map]; rfl
  rw [this, List.nodup_iff_pairwise_ne, List.pairwise_map]
  rw [List.nodup_iff_pairwise_ne] at hn
  exact hn.imp fun h z => h (Sum.inr.inj z)
theorem free_of {G H : Hp} {a : Addr} (s : Same G H) (h : H a = none) : G a = none := by
  cases e : G a with
  | none => rfl
  | some u => rw [s _ _ e] at h; cases h
/-- Net(o, d): in heap and ghost -/
theorem e_net {G1 H1 : Hp} {Q : VK} {E : XK} {o d : Addr} {posts : List Str} {kvs : List (Key × V)} {lanes : List (Lane Str)} (s : Same G1 H1) (ho : H1 o = some (.lst (posts.map V.str))) (hd : H1 d = some (.dK kvs)) (hk : Seq2 (EndV G1) kvs lanes) (kd : KD kvs)
    (k : ∀ (q : Addr) (G' H' : Hp), Grow no G1 H1 G' H' → NetAt CN G' q posts lanes → Q (.ref q) H') : ∀ x dx, H1 x = none → H1 dx = none → dx ≠ x → spNInit K CN (.ref x :: [.ref o, .ref d]) (upd (upd H1 dx (.own x)) x (.ins CN dx [])) (fun v H2 => v = .non ∧ Q (.ref x) H2) E := by
  refine e_make s fun x dx H2 s2 hx hxG hx2 => ⟨x, dx, o, .ref d, posts.map V.str, kvs, rfl, hx2, .inl (.inl (.inl (s2 _ _ ho))), .inr ⟨d, rfl, s2 _ _ hd⟩, kd, fun H3 fs o2 d2 hx3 bk no nd' od ho3 hd3 a1 a2 a3 => ⟨rfl, ?_⟩⟩
  have s3 : Same H1 H3 := fun r u e => bk r u (fun z => by rw [z, hx] at e; cases e) (s2 _ _ e)
  have no1 := free_of s2 no
  have nd1 := free_of s2 nd'
  have g1 := ((Grow.refl s (m := K48.no)).heap s3).tell hx3 hx
  have g2 := g1.tell ho3 no1
  have g3 := g2.tell hd3 nd1
  have hxo : x ≠ o2 := fun z => by rw [← z, hx2] at no; cases no
  have hxd : x ≠ d2 := fun z => by rw [← z, hx2] at nd'; cases nd'
  refine k x _ H3 g3 ⟨dx, fs, o2, d2, kvs, ?_, a1, a2, a3, ?_, upd_same, hk.mono fun _ _ => EndV.mono g3.gg⟩
  · rw [upd_ne hxd, upd_ne hxo, upd_same]
  · show upd _ _ _ _ = _
    rw [upd_ne od, upd_same]
abbrev st_Net_posts : Stmt := inClass (topS 30) 1
abbrev N_Net_posts : List Str := ["self"]
theorem sc_Net_posts : FnScope N_Net_posts ["self"] (defScope st_Net_posts) := ⟨rfl, rfl, rfl, by decide +kernel, rfl, by decide +kernel, by decide +kernel⟩
theorem ok_Net_posts (T : Top K mg) (cN : CF K CN netF) (F : Pn K CN "posts" "Net.posts" st_Net_posts) : Prp P w K mg base 1 CN "posts" (spNPosts CN) := by
  refine F.prp cN.cls sc_Net_posts (fun vs H Q E h => ?_) (fun _ _ _ _ _ _ us hl => match us, hl with | [_], _ => rfl) (fun f cdv A outer s H vs Q E hr h => ?_)
  · obtain ⟨a, posts, lanes, rfl, _⟩ := h
    rfl
  · obtain ⟨a, posts, lanes, rfl, hn, k⟩ := h
    obtain ⟨dx, fs, o, d, kvs, h1, h2, h3, h4, h5, h6, h7⟩ := hn.ex
    refine ⟨_, (pss_one (ps_ret (pe_callTy (call_tuple_of : CallR _ _ (rTupQ K)) rfl T.b_tuple (by decide +kernel) (pa_cons (pe_fld (pv 0) rfl) pa_nil)))), ?_⟩
    walk_at "r"
    refine r_field cN (by decide) h1 h2 ?_
    walk_at "r"
    exact e_tupQ (Same.refl H) h5 fun q G2 H2 e2 hq hq0 => k q H2 e2.same hq0 (e2.at hq)
abbrev st_Net_lanes : Stmt := inClass (topS 30) 2
abbrev N_Net_lanes : List Str := ["self", "lane"]
theorem sc_Net_lanes : FnScope N_Net_lanes ["self"] (defScope st_Net_lanes) := ⟨rfl, rfl, rfl, by decide +kernel, rfl, by decide +kernel, by decide +kernel⟩
theorem ok_Net_lanes (T : Top K mg) (cN : CF K CN netF) (F : Pn K CN "lanes" "Net.lanes" st_Net_lanes) : Prp P w K mg base 1 CN "lanes" (spNLanes CN) := by
  refine F.prp cN.cls sc_Net_lanes (fun vs H Q E h => ?_) (fun _ _ _ _ _ _ us hl => match us, hl with | [_], _ => rfl) (fun f cdv A outer s H vs Q E hr h => ?_)
  · obtain ⟨a, posts, lanes, rfl, _⟩ := h
    rfl
  · obtain ⟨a, posts, lanes, rfl, hn, h8, k⟩ := h
    obtain ⟨dx, fs, o, d, kvs, h1, h2, h3, h4, h5, h6, h7⟩ := hn.ex
    have hda : a ≠ d := fun z => by rw [z, h6] at h1; cases h1
    refine ⟨_, (pss_one (ps_ret (pe_callTy (call_tuple_of : CallR _ _ (rTupQ K)) rfl T.b_tuple (by decide +kernel) (pa_cons (pe_lock (pe_lc (own := [("lane", 1)]) (g := (gName 1)) (tt := tYes) rfl sc_Net_lanes.nd (pi_keys (pe_fld (pv 0) rfl)) (blkOk_by (N := N_Net_lanes) (sc := defScope st_Net_lanes) (by decide +kernel)) (fun _ _ _ _ _ => (pg_name (i := 1) sc_Net_lanes.nd rfl (Or.inl rfl))) (fun _ _ _ _ _ => pts_nil) (fun _ _ _ _ _ => (pv 1)))) pa_nil)))), ?_⟩
    walk_at "r"
    refine r_lockE ⟨d, _, h6, trivial, fun od => ?_⟩
    refine r_lc ?_
    refine r_iKeys ?_
    walk_at "r"
    refine r_field cN (by decide) (lock_same h1 hda) h3 ?_
    refine ⟨d, od, rfl, .inl ⟨kvs, upd_same, fun Dl hD => ?_⟩⟩
    have hDd : d ≠ Dl := fun z => by rw [← z, upd_same] at hD; cases hD
    refine lc_it (walk_keys (d := d) (o := od) (kvs := kvs)) (fun i H' => Same (upd H d (.frz od (.dK kvs))) H' ∧ StrL H' Dl ((lanes.map (·.1)).take i)) ⟨same_upd hD, upd_same⟩ (fun _ _ _ h => h.1 _ _ upd_same) ?_ ?_
    · rintro i v H5' H5 hi ⟨s5, hDl⟩ ⟨rfl, kk, vv, hkv, rfl⟩
      obtain ⟨e, he, hk1, _⟩ := h7.at hkv
      have hk1 : kk = nk e.1 := hk1
      subst hk1
      have ti : (lanes.map (·.1))[i]? = some e.1 := by rw [List.getElem?_map, he]; rfl
      walk_at "r"
      refine ⟨rfl, ?_⟩
      walk_at "r"
      refine ⟨_, hDl, ?_, s5.upd_mut hD, ?_⟩
      · rw [List.length_map, List.length_take, List.length_map]; exact small_lt (by omega)
      · show upd _ _ _ _ = _
        rw [upd_same, take_snoc ti, List.map_append]
        rfl
    · rintro H5 ⟨s5, hDl⟩
      rw [List.take_of_length_le (by rw [List.length_map, h7.1]; exact Nat.le_refl _)] at hDl
      refine ⟨s5 _ _ upd_same, ?_⟩
      have s7 := lock_back h6 s5
      have hDl7 : StrL (upd H5 d (.dK kvs)) Dl (lanes.map (·.1)) := by show upd _ _ _ _ = _; rw [upd_ne (Ne.symm hDd)]; exact hDl
      walk_at "r"
      exact e_tupQ (Same.refl _) hDl7 fun q G2 H2 e2 hq hq0 => k q H2 (s7.trans e2.same) (free_of s7 hq0) (e2.at hq)
abbrev st_Net_start_of : Stmt := inClass (topS 30) 5
abbrev N_Net_start_of : List Str := ["self", "lane"]
theorem sc_Net_start_of : FnScope N_Net_start_of ["self", "lane"] (defScope st_Net_start_of) := ⟨rfl, rfl, rfl, by decide +kernel, rfl, by decide +kernel, by decide +kernel⟩
theorem ok_Net_start_of (T : Top K mg) (cN : CF K CN netF) (F : Mn K CN "start_of" "Net.start_of" st_Net_start_of) : C8.Met P w K mg base 1 CN "start_of" (spNStart CN) [] := by
  refine F.met cN.cls sc_Net_start_of (fun vs H Q E h => ?_) (fun _ _ _ _ _ _ us hl => match us, hl with | [_, _], _ => rfl) (fun f cdv A outer s H vs Q E hr h => ?_)
  · obtain ⟨a, posts, lanes, e, rfl, _⟩ := h
    rfl
  · obtain ⟨a, posts, lanes, e, rfl, hn, hnd, he, k⟩ := h
    obtain ⟨dx, fs, o, d, kvs, h1, h2, h3, h4, h5, h6, h7⟩ := hn.ex
    obtain ⟨t, ht, ht2⟩ := endv_get h7 hnd he
    refine ⟨_, (pss_cons (ps_if (pt_cmp (pc_dnotin (hu1 hr) (pv 1) (pe_fld (pv 0) rfl)) rfl) (pss_one (ps_never)) pss_nil)
  (pss_one (ps_ret (pe_ix ix_tup (pe_dget (hu1 hr) (pe_fld (pv 0) rfl) (pv 1) (fun _ _ => rfl)) pe_int (fun _ _ => rfl))))), ?_⟩
    walk_at "r"
    refine r_field cN (by decide) h1 h3 ?_
    refine ⟨d, _, rfl, DGet.k (k := nk e.1) h6, ?_⟩
    rw [ht]
    walk_at "r"
    refine r_no rfl ?_
    walk_at "r"
    refine r_field cN (by decide) h1 h3 ?_
    walk_at "r"
    refine ⟨d, _, rfl, by rw [← ht]; exact DGet.k (k := nk e.1) h6, ?_⟩
    walk_at "r"
    exact r_ixT (j := 0) ht2 rfl k
abbrev st_Net_end_of : Stmt := inClass (topS 30) 6
abbrev N_Net_end_of : List Str := ["self", "lane"]
theorem sc_Net_end_of : FnScope N_Net_end_of ["self", "lane"] (defScope st_Net_end_of) := ⟨rfl, rfl, rfl, by decide +kernel, rfl, by decide +kernel, by decide +kernel⟩
theorem ok_Net_end_of (T : Top K mg) (cN : CF K CN netF) (F : Mn K CN "end_of" "Net.end_of" st_Net_end_of) : C8.Met P w K mg base 1 CN "end_of" (spNEnd CN) [] := by
  refine F.met cN.cls sc_Net_end_of (fun vs H Q E h => ?_) (fun _ _ _ _ _ _ us hl => match us, hl with | [_, _], _ => rfl) (fun f cdv A outer s H vs Q E hr h => ?_)
  · obtain ⟨a, posts, lanes, e, rfl, _⟩ := h
    rfl
  · obtain ⟨a, posts, lanes, e, rfl, hn, hnd, he, k⟩ := h
    obtain ⟨dx, fs, o, d, kvs, h1, h2, h3, h4, h5, h6, h7⟩ := hn.ex
    obtain ⟨t, ht, ht2⟩ := endv_get h7 hnd he
    refine ⟨_, (pss_cons (ps_if (pt_cmp (pc_dnotin (hu1 hr) (pv 1) (pe_fld (pv 0) rfl)) rfl) (pss_one (ps_never)) pss_nil)
  (pss_one (ps_ret (pe_ix ix_tup (pe_dget (hu1 hr) (pe_fld (pv 0) rfl) (pv 1) (fun _ _ => rfl)) pe_int (fun _ _ => rfl))))), ?_⟩
    walk_at "r"
    refine r_field cN (by decide) h1 h3 ?_
    refine ⟨d, _, rfl, DGet.k (k := nk e.1) h6, ?_⟩
    rw [ht]
    walk_at "r"
    refine r_no rfl ?_
    walk_at "r"
    refine r_field cN (by decide) h1 h3 ?_
    walk_at "r"
    refine ⟨d, _, rfl, by rw [← ht]; exact DGet.k (k := nk e.1) h6, ?_⟩
    walk_at "r"
    exact r_ixT (j := 1) ht2 rfl k
end
end K48
/-! ## KD23 -/
set_option maxHeartbeats 4000000
namespace K48
open PySem L2
local macro_rules | `(tactic| walk_at "r1") => `(tactic| first
  | with_reducible refine r_seq ?_ | with_reducible refine r_asg ?_ | with_reducible refine r_ret ?_ | with_reducible refine r_drop ?_ | with_reducible refine r_if ?_ | with_reducible refine r_next ?_
  | with_reducible refine r_name ?_ | with_reducible refine r_c ?_ | ((with_reducible show tVar _ _ _ _); refine r_var rfl ?_) | with_reducible refine r_op ?_ | with_reducible refine r_un ?_
  | with_reducible refine r_i0 ?_ | with_reducible refine r_test ?_ | with_reducible refine r_tB ?_ | with_reducible refine r_bl ?_ | with_reducible refine r_and ?_ | with_reducible refine r_or ?_
  | with_reducible refine r_not ?_ | with_reducible refine r_ifE ?_ | with_reducible refine r_cons ?_ | with_reducible refine r_nil ?_ | with_reducible refine r_cb ?_ | with_reducible refine r_call ?_
  | with_reducible refine r_lstG ?_ | with_reducible refine r_tupG ?_ | with_reducible refine r_sl ?_ | with_reducible refine r_noP ?_ | with_reducible refine r_part ?_ | with_reducible refine r_exI ?_
  | with_reducible refine r_tr ?_ | with_reducible refine r_fa ?_ | with_reducible refine r_for ?_ | with_reducible refine r_iList ?_ | with_reducible refine r_iTup ?_ | with_reducible refine r_iStr ?_
  | with_reducible refine r_iR1 ?_ | with_reducible refine r_iR2 ?_ | with_reducible refine r_lc ?_ | with_reducible refine r_nt ?_ | with_reducible refine r_nf ?_ | with_reducible refine r_orV ?_ | with_reducible refine r_andV ?_ | with_reducible refine r_yesT ?_ | with_reducible refine r_gsub ?_ | with_reducible refine r_gcons ?_ | with_reducible refine r_gnil ?_ | with_reducible refine r_bm ?_ | with_reducible refine r_bm0 ?_
  | with_reducible refine r_fldG ?_ | with_reducible refine r_sfldG ?_ | with_reducible refine r_meth ?_ | with_reducible refine r_make ?_ | with_reducible refine r_dget ?_ | with_reducible refine r_din ?_ | with_reducible refine r_dnin ?_ | with_reducible refine r_dput ?_
  | with_reducible refine r_dgetN ?_ | with_reducible refine r_dinN ?_ | with_reducible refine r_dninN ?_ | with_reducible refine r_dputN ?_ | ((with_reducible show tAug _ _ _ _ _ _); refine r_aug rfl ?_) | with_reducible refine r_par ?_ | with_reducible refine r_neg ?_ | with_reducible refine r_iEnum ?_ | with_reducible refine r_iZip ?_ | with_reducible refine r_iZipA ?_)
local macro_rules | `(tactic| walk_at "r") => `(tactic| repeat walk_at "r1")

section
variable {P : Program} {w : World} {K : PySem.W.Frag} {mg : Str → Option Value} {base : Heap} {CN : Addr}
abbrev st_Net_out_of : Stmt := inClass (topS 30) 7
abbrev N_Net_out_of : List Str := ["self", "post", "lane"]
theorem sc_Net_out_of : FnScope N_Net_out_of ["self", "post"] (defScope st_Net_out_of) := ⟨rfl, rfl, rfl, by decide +kernel, rfl, by decide +kernel, by decide +kernel⟩
theorem ok_Net_out_of (T : Top K mg) (cN : CF K CN netF) (F : Mn K CN "out_of" "Net.out_of" st_Net_out_of) : C8.Met P w K mg base 1 CN "out_of" (spNOut CN) [] := by
  refine F.met cN.cls sc_Net_out_of (fun vs H Q E h => ?_) (fun _ _ _ _ _ _ us hl => match us, hl with | [_, _], _ => rfl) (fun f cdv A outer s H vs Q E hr h => ?_)
  · obtain ⟨a, posts, lanes, p, rfl, _⟩ := h
    rfl
  · obtain ⟨a, posts, lanes, p, rfl, hn, hnet, hp, k⟩ := h
    obtain ⟨dx, fs, o, d, kvs, h1, h2, h3, h4, h5, h6, h7⟩ := hn.ex
    have hda : a ≠ d := fun z => by rw [z, h6] at h1; cases h1
    have h8 := hnet.l8
    refine ⟨_, (pss_cons (ps_if (pt_cmpR op_notIn_seq (pv 1) (pe_fld (pv 0) rfl) (by rfl)) (pss_one (ps_never)) pss_nil)
  (pss_one (ps_ret (pe_callTy (call_tuple_of : CallR _ _ (rTupQ K)) rfl T.b_tuple (by decide +kernel) (pa_cons (pe_lock (pe_lc (own := [("lane", 2)]) (g := (gName 2)) rfl sc_Net_out_of.nd (pi_keys (pe_fld (pv 0) rfl)) (blkOk_by (N := N_Net_out_of) (sc := defScope st_Net_out_of) (by decide +kernel)) (fun _ _ _ _ _ => (pg_name (i := 2) sc_Net_out_of.nd rfl (Or.inl rfl))) (fun _ _ _ _ _ => (pts_one (pt_cmpR op_eq (pe_ix (ix_tup : IxR _ (rIxT K)) (pe_dget (hu1 hr) ((pe_fld (pv 0) rfl) : PE _ _ (tFld K _ _)) (pv 2) (fun _ _ => rfl)) pe_int (fun _ _ => rfl)) (pv 1) (nomark _)))) (fun _ _ _ _ _ => (pv 2)))) pa_nil))))), ?_⟩
    walk_at "r"
    refine r_field cN (by decide) h1 h2 ?_
    refine r_ninS (ks := posts) (.inl (.inl (.inl h5))) ?_
    walk_at "r"
    refine r_no (by rw [decide_eq_true hp]; rfl) ?_
    walk_at "r"
    refine r_lockE ⟨d, _, h6, trivial, fun od => ?_⟩
    refine r_lc ?_
    refine r_iKeys ?_
    walk_at "r"
    refine r_field cN (by decide) (lock_same h1 hda) h3 ?_
    refine ⟨d, od, rfl, .inl ⟨kvs, upd_same, fun Dl hD => ?_⟩⟩
    have hDd : d ≠ Dl := fun z => by rw [← z, upd_same] at hD; cases hD
    let ff : Lane Str → Bool := fun e => decide (e.2.1 = p)
    refine lc_it (walk_keys (d := d) (o := od) (kvs := kvs)) (fun i H' => Same (upd H d (.frz od (.dK kvs))) H' ∧ StrL H' Dl (((lanes.take i).filter ff).map (·.1))) ⟨same_upd hD, upd_same⟩ (fun _ _ _ h => h.1 _ _ upd_same) ?_ ?_
    · rintro i v H5' H5 hi ⟨s5, hDl⟩ ⟨rfl, kk, vv, hkv, rfl⟩
      obtain ⟨e, he, hk1, _⟩ := h7.at hkv
      have hk1 : kk = nk e.1 := hk1
      subst hk1
      obtain ⟨t, ht, ht2⟩ := endv_get h7 hnet.ln.nd (List.mem_of_getElem? he)
      have htd : t ≠ d := fun z => by rw [z, h6] at ht2; cases ht2
      have hfl : ((lanes.take i).filter ff).length ≤ 8 := Nat.le_trans (List.length_filter_le _ _) (by rw [List.length_take]; omega)
      walk_at "r"
      refine ⟨rfl, ?_⟩
      walk_at "r"
      refine r_field cN (by decide) (s5 _ _ (lock_same h1 hda)) h3 ?_
      walk_at "r"
      refine ⟨d, _, rfl, by rw [← ht]; exact DGet.frz (k := nk e.1) (s5 _ _ upd_same), ?_⟩
      walk_at "r"
      refine r_ixT (j := 0) (s5 _ _ (lock_same ht2 htd)) rfl ?_
      walk_at "r"
      refine r_eq rfl ?_
      walk_at "r"
      rw [take_snoc he, List.filter_append]
      by_cases c : e.2.1 = p
      · refine r_yes (decide_eq_true (by rw [c])) ?_
        walk_at "r"
        refine ⟨_, hDl, by rw [List.length_map, List.length_map]; exact small_lt (by omega), s5.upd_mut hD, ?_⟩
        show upd _ _ _ _ = _
        rw [upd_same, List.filter_cons_of_pos (p := ff) (decide_eq_true c), List.filter_nil, List.map_append, List.map_append]
        rfl
      · refine r_no (decide_eq_false fun z => c (V.str.inj z)) ?_
        refine ⟨s5, ?_⟩
        rw [List.filter_cons_of_neg (p := ff) (by show ¬ decide (e.2.1 = p) = true; rw [decide_eq_false c]; decide), List.filter_nil, List.append_nil]
        exact hDl
    · rintro H5 ⟨s5, hDl⟩
      rw [List.take_of_length_le (by rw [h7.1]; exact Nat.le_refl _)] at hDl
      refine ⟨s5 _ _ upd_same, ?_⟩
      have s7 := lock_back h6 s5
      have hDl7 : StrL (upd H5 d (.dK kvs)) Dl ((lanes.filter ff).map (·.1)) := by show upd _ _ _ _ = _; rw [upd_ne (Ne.symm hDd)]; exact hDl
      walk_at "r"
      exact e_tupQ (Same.refl _) hDl7 fun q G2 H2 e2 hq hq0 => k q H2 (s7.trans e2.same) (free_of s7 hq0) (e2.at hq)
abbrev st_Net_copy : Stmt := inClass (topS 30) 8
abbrev N_Net_copy : List Str := ["self"]
theorem sc_Net_copy : FnScope N_Net_copy ["self"] (defScope st_Net_copy) := ⟨rfl, rfl, rfl, by decide +kernel, rfl, by decide +kernel, by decide +kernel⟩
theorem ok_Net_copy (T : Top K mg) (cN : CF K CN netF) (F : Mn K CN "copy" "Net.copy" st_Net_copy) (c_Net : C8.Mak P w K mg base 1 "Net" CN (spNInit K CN) []) : C8.Met P w K mg base 3 CN "copy" (spNCopy CN id) [] := by
  refine F.met cN.cls sc_Net_copy (fun vs H Q E h => ?_) (fun _ _ _ _ _ _ us hl => match us, hl with | [_], _ => rfl) (fun f cdv A outer s H vs Q E hr h => ?_)
  · obtain ⟨a, posts, lanes, G, rfl, _⟩ := h
    rfl
  · obtain ⟨a, posts, lanes, G, rfl, sg, hn, hnd, h8, k⟩ := h
    obtain ⟨dx, fs, o, d, kvs, h1, h2, h3, h4, h5, h6, h7⟩ := hn.ex
    refine ⟨_, (pss_one (ps_ret (C8.pe_mk c_Net hr (by omega) rfl (pa_cons (pe_fld (pv 0) rfl) (pa_cons (pe_fld (pv 0) rfl) pa_nil))))), ?_⟩
    walk_at "r"
    refine r_field cN (by decide) (sg _ _ h1) h2 ?_
    walk_at "r"
    refine r_field cN (by decide) (sg _ _ h1) h3 ?_
    walk_at "r"
    exact e_net sg (sg _ _ h5) (sg _ _ h6) h7 (endv_kd h7 hnd h8) k
abbrev st_Net_neg : Stmt := inClass (topS 30) 17
abbrev N_Net_neg : List Str := ["self", "lane"]
theorem sc_Net_neg : FnScope N_Net_neg ["self"] (defScope st_Net_neg) := ⟨rfl, rfl, rfl, by decide +kernel, rfl, by decide +kernel, by decide +kernel⟩
theorem ok_Net_neg (T : Top K mg) (cN : CF K CN netF) (F : Sn K CN "__neg__" "Net.__neg__" st_Net_neg) (c_Net : C8.Mak P w K mg base 1 "Net" CN (spNInit K CN) []) : Spc P w K mg base 3 CN "__neg__" (spNCopy CN (fun l => l.map flipL)) := by
  refine F.spc cN.cls sc_Net_neg (fun vs H Q E h => ?_) (fun _ _ _ _ _ _ us hl => match us, hl with | [_], _ => rfl) (fun f cdv A outer s H vs Q E hr h => ?_)
  · obtain ⟨a, posts, lanes, G, rfl, _⟩ := h
    rfl
  · obtain ⟨a, posts, lanes, G, rfl, sg, hn, hnd, h8, k⟩ := h
    obtain ⟨dx, fs, o, d, kvs, h1, h2, h3, h4, h5, h6, h7⟩ := hn.ex
    have hda : a ≠ d := fun z => by rw [z, h6] at h1; cases h1
    have hda' : H a = some (.ins CN dx fs) := sg _ _ h1
    refine ⟨_, (pss_one (ps_ret (C8.pe_mk c_Net hr (by omega) rfl (pa_cons (pe_fld (pv 0) rfl) (pa_cons (pe_lock (pe_dc (own := [("lane", 1)]) (g := (gName 1)) (tt := tYes) rfl sc_Net_neg.nd (pi_keys (pe_fld (pv 0) rfl)) (blkOk_by (N := N_Net_neg) (sc := defScope st_Net_neg) (by decide +kernel)) (fun _ _ _ _ _ => (pg_name (i := 1) sc_Net_neg.nd rfl (Or.inl rfl))) (fun _ _ _ _ _ => pts_nil) (fun _ _ _ _ _ => (pv 1)) (fun _ _ _ _ _ => (pe_rev2 (pe_dget (hu1 hr) ((pe_fld (pv 0) rfl) : PE _ _ (tFld K _ _)) (pv 1) (fun _ _ => rfl)))))) pa_nil))))), ?_⟩
    walk_at "r"
    refine r_field cN (by decide) (sg _ _ h1) h2 ?_
    walk_at "r"
    refine r_lockE ⟨d, _, sg _ _ h6, trivial, fun od => ?_⟩
    refine r_dc ?_
    refine r_iKeys ?_
    walk_at "r"
    refine r_field cN (by decide) (lock_same hda' hda) h3 ?_
    refine ⟨d, od, rfl, .inl ⟨kvs, upd_same, fun Dl hD => ?_⟩⟩
    have hDd : d ≠ Dl := fun z => by rw [← z, upd_same] at hD; cases hD
    have hD0 : H Dl = none := by rw [upd_ne (Ne.symm hDd)] at hD; exact hD
    have hDG := free_of sg hD0
    let G0 : Hp := fun r => if r = d then none else G r
    have s0 : Same G0 (upd H d (.frz od (.dK kvs))) := fun r u e => by
      show upd _ _ _ _ = _
      by_cases c : r = d
      · rw [show G0 r = none from if_pos c] at e; cases e
      · rw [upd_ne c]
        rw [show G0 r = G r from if_neg c] at e
        exact sg _ _ e
    have sG0 : Same G0 G := fun r u e => by
      by_cases c : r = d
      · rw [show G0 r = none from if_pos c] at e; cases e
      · rw [show G0 r = G r from if_neg c] at e
        exact e
    have hG0D : G0 Dl = none := by rw [show G0 Dl = G Dl from if_neg (Ne.symm hDd)]; exact hDG
    refine lcx_it (walk_keys (d := d) (o := od) (kvs := kvs)) (fun i H' => ∃ (G' : Hp) (kv2 : List (Key × V)), Grow no G0 (upd H d (.frz od (.dK kvs))) G' H' ∧ G' Dl = none ∧ G' d = none ∧ H' Dl = some (.dK kv2) ∧ Seq2 (EndV G') kv2 ((lanes.take i).map flipL)) ⟨G0, [], (Grow.refl s0).newH hD, hG0D, if_pos rfl, upd_same, .nil⟩ (fun _ _ _ ⟨_, _, g, _⟩ => g.same _ _ upd_same) ?_ ?_
    · rintro i v H5' H5 hi ⟨G5, kv2, g, hDG5, hdG5, hDl, hk2⟩ ⟨rfl, kk, vv, hkv, rfl⟩
      obtain ⟨e, he, hk1, _⟩ := h7.at hkv
      have hk1 : kk = nk e.1 := hk1
      subst hk1
      obtain ⟨t, ht, ht2⟩ := endv_get h7 hnd (List.mem_of_getElem? he)
      have htd : t ≠ d := fun z => by rw [z, h6] at ht2; cases ht2
      have hkl : kv2.length ≤ 8 := by rw [hk2.1, List.length_map, List.length_take]; omega
      walk_at "r"
      refine ⟨rfl, ?_⟩
      walk_at "r"
      show tDGet _ _ _ _ _
      refine r_dget ?_
      walk_at "r"
      refine r_field cN (by decide) (g.same _ _ (lock_same hda' hda)) h3 ?_
      walk_at "r"
      refine ⟨d, _, rfl, by rw [← ht]; exact DGet.frz (k := nk e.1) (g.same _ _ upd_same), ?_⟩
      refine ⟨t, .str e.2.1, .str e.2.2, rfl, g.same _ _ (lock_same (sg _ _ ht2) htd), fun t2 ht20 => ?_⟩
      have hDt : Dl ≠ t2 := ne_of_none hDl ht20
      have g2 := g.newN (o := .tup [.str e.2.2, .str e.2.1]) ht20
      have sG := same_upd (o := .tup [.str e.2.2, .str e.2.1]) (g.free1 ht20)
      have hdt : d ≠ t2 := ne_of_none (g.same _ _ upd_same) ht20
      have hnew : nk e.1 ∉ kv2.map (·.1) := by
        rw [endv_keys hk2]
        intro z
        have : (((lanes.take i).map flipL).map fun e => nk e.1) = ((lanes.take i).map (·.1)).map nk := by rw [List.map_map, List.map_map]; rfl
        rw [this, nk_mem] at z
        have hnd2 := hnd
        rw [← List.take_append_drop i lanes, List.map_append, List.nodup_append] at hnd2
        refine hnd2.2.2 _ z e.1 ?_ rfl
        refine List.mem_map.mpr ⟨e, ?_, rfl⟩
        have hil := (List.getElem?_eq_some_iff.mp he)
        rw [List.drop_eq_getElem_cons hil.1, hil.2]
        exact List.mem_cons_self
      refine ⟨kv2, nk e.1, rfl, by rw [upd_ne hDt]; exact hDl, small_lt (by omega), ?_⟩
      rw [putK_new hnew]
      have hDG2 : upd G5 t2 (.tup [.str e.2.2, .str e.2.1]) Dl = none := by rw [upd_ne hDt]; exact hDG5
      refine ⟨_, _, g2.mut hDG2 (.inl hD), hDG2, by rw [upd_ne hdt]; exact hdG5, upd_same, ?_⟩
      rw [take_snoc he, List.map_append]
      exact (hk2.mono fun _ _ => EndV.mono sG).snoc ⟨rfl, t2, rfl, upd_same⟩
    · rintro H5 ⟨G5, kv2, g, hDG5, hdG5, hDl, hk2⟩
      rw [List.take_of_length_le (by rw [h7.1]; exact Nat.le_refl _)] at hk2
      refine ⟨g.same _ _ upd_same, ?_⟩
      have s7 := lock_back (sg _ _ h6) g.same
      have hDl7 : upd H5 d (.dK kvs) Dl = some (.dK kv2) := by rw [upd_ne (Ne.symm hDd)]; exact hDl
      let G6 : Hp := fun r => if r = d then G d else G5 r
      have s6 : Same G6 (upd H5 d (.dK kvs)) := fun r u e => by
        by_cases c : r = d
        · subst c
          rw [show G6 r = G r from if_pos rfl, h6] at e
          rw [upd_same]; exact e
        · rw [show G6 r = G5 r from if_neg c] at e
          rw [upd_ne c]; exact g.gh _ _ e
      have sGG : Same G G6 := fun r u e => by
        by_cases c : r = d
        · subst c; rw [show G6 r = G r from if_pos rfl]; exact e
        · rw [show G6 r = G5 r from if_neg c]
          exact g.gg _ _ (by rw [show G0 r = G r from if_neg c]; exact e)
      have s56 : Same G5 G6 := fun r u e => by
        by_cases c : r = d
        · subst c; rw [hdG5] at e; cases e
        · rw [show G6 r = G5 r from if_neg c]; exact e
      have g6 : Grow no G H G6 (upd H5 d (.dK kvs)) := ⟨s7.off, sGG, s6, fun r h1 h2 => by
        by_cases c : r = d
        · subst c; rw [h6] at h1; cases h1
        · rw [show G6 r = G5 r from if_neg c]
          refine g.new r (by rw [show G0 r = G r from if_neg c]; exact h1) ?_
          rw [upd_ne c]; exact h2⟩
      have hk6 := hk2.mono fun _ _ => EndV.mono s56
      have hndf : ((lanes.map flipL).map (·.1)).Nodup := by rw [List.map_map]; exact hnd
      refine e_net s6 (s6 _ _ (sGG _ _ h5)) hDl7 hk6 (endv_kd hk6 hndf (by rw [List.length_map]; exact h8)) fun q G' H' e hq => k q G' H' (g6.trans e) hq
end
end K48
/-! ## KD24 -/
set_option maxHeartbeats 4000000
namespace K48
open PySem L2
local macro_rules | `(tactic| walk_at "r1") => `(tactic| first
  | with_reducible refine r_seq ?_ | with_reducible refine r_asg ?_ | with_reducible refine r_ret ?_ | with_reducible refine r_drop ?_ | with_reducible refine r_if ?_ | with_reducible refine r_next ?_
  | with_reducible refine r_name ?_ | with_reducible refine r_c ?_ | ((with_reducible show tVar _ _ _ _); refine r_var rfl ?_) | with_reducible refine r_op ?_ | with_reducible refine r_un ?_
  | with_reducible refine r_i0 ?_ | with_reducible refine r_test ?_ | with_reducible refine r_tB ?_ | with_reducible refine r_bl ?_ | with_reducible refine r_and ?_ | with_reducible refine r_or ?_
  | with_reducible refine r_not ?_ | with_reducible refine r_ifE ?_ | with_reducible refine r_cons ?_ | with_reducible refine r_nil ?_ | with_reducible refine r_cb ?_ | with_reducible refine r_call ?_
  | with_reducible refine r_lstG ?_ | with_reducible refine r_tupG ?_ | with_reducible refine r_sl ?_ | with_reducible refine r_noP ?_ | with_reducible refine r_part ?_ | with_reducible refine r_exI ?_
  | with_reducible refine r_tr ?_ | with_reducible refine r_fa ?_ | with_reducible refine r_for ?_ | with_reducible refine r_iList ?_ | with_reducible refine r_iTup ?_ | with_reducible refine r_iStr ?_
  | with_reducible refine r_iR1 ?_ | with_reducible refine r_iR2 ?_ | with_reducible refine r_lc ?_ | with_reducible refine r_nt ?_ | with_reducible refine r_nf ?_ | with_reducible refine r_orV ?_ | with_reducible refine r_andV ?_ | with_reducible refine r_yesT ?_ | with_reducible refine r_gsub ?_ | with_reducible refine r_gcons ?_ | with_reducible refine r_gnil ?_ | with_reducible refine r_bm ?_ | with_reducible refine r_bm0 ?_
  | with_reducible refine r_fldG ?_ | with_reducible refine r_sfldG ?_ | with_reducible refine r_meth ?_ | with_reducible refine r_make ?_ | with_reducible refine r_dget ?_ | with_reducible refine r_din ?_ | with_reducible refine r_dnin ?_ | with_reducible refine r_dput ?_
  | with_reducible refine r_dgetN ?_ | with_reducible refine r_dinN ?_ | with_reducible refine r_dninN ?_ | with_reducible refine r_dputN ?_ | ((with_reducible show tAug _ _ _ _ _ _); refine r_aug rfl ?_) | with_reducible refine r_par ?_ | with_reducible refine r_neg ?_ | with_reducible refine r_iEnum ?_ | with_reducible refine r_iZip ?_ | with_reducible refine r_iZipA ?_)
local macro_rules | `(tactic| walk_at "r") => `(tactic| repeat walk_at "r1")

def spReach (CN : Addr) : Sp := fun vs H Q _ => ∃ (a : Addr) (start : Str) (posts : List Str) (lanes : List (Lane Str)), vs = [.ref a, .str start] ∧ NetAt CN H a posts lanes ∧ (lanes.map (·.1)).Nodup ∧ lanes.length ≤ 8 ∧ posts.length ≤ 5 ∧
  ∀ (q : Addr) (rs : List Str) (H' : Hp), Same H H' → H q = none → StrT H' q rs → (∀ z, z ∈ rs ↔ z ∈ posts ∧ Conn lanes start z) → rs.length ≤ 5 → Q (.ref q) H'
section
variable {P : Program} {w : World} {K : PySem.W.Frag} {mg : Str → Option Value} {base : Heap} {CN : Addr}
/-- the posts found: keys of a dict -/
structure Fnd (lanes : List (Lane Str)) (start : Str) (kvs : List (Key × V)) (zs : List Str) : Prop where
  keys : kvs.map (·.1) = zs.map nk
  nd : zs.Nodup
  sub : ∀ z ∈ zs, z ∈ start :: lanes.map (·.2.2)
  conn : ∀ z ∈ zs, Conn lanes start z
  st : start ∈ zs
theorem Fnd.len {lanes : List (Lane Str)} {start : Str} {kvs : List (Key × V)} {zs : List Str} (h : Fnd lanes start kvs zs) (h8 : lanes.length ≤ 8) : zs.length ≤ 9 ∧ kvs.length = zs.length := by
  have h1 := len_le_of_sub h.nd h.sub
  rw [List.length_cons, List.length_map] at h1
  have h2 : (kvs.map (·.1)).length = (zs.map nk).length := by rw [h.keys]
  rw [List.length_map, List.length_map] at h2
  omega
theorem Fnd.isSome {lanes : List (Lane Str)} {start : Str} {kvs : List (Key × V)} {zs : List Str} (h : Fnd lanes start kvs zs) (z : Str) : (valV kvs (nk z)).isSome = decide (z ∈ zs) := by
  by_cases c : z ∈ zs
  · rw [decide_eq_true c]
    obtain ⟨v, hv⟩ := valV_some (kvs := kvs) (k := nk z) (by rw [h.keys, nk_mem]; exact c)
    rw [hv]; rfl
  · rw [decide_eq_false c, valV_none.mpr (by rw [h.keys, nk_mem]; exact c)]
    rfl
theorem Fnd.put {lanes : List (Lane Str)} {start : Str} {kvs : List (Key × V)} {zs : List Str} (h : Fnd lanes start kvs zs) {e : Lane Str} (he : e ∈ lanes) (h1 : e.2.1 ∈ zs) (h2 : e.2.2 ∉ zs) (v : V) : Fnd lanes start (kvs ++ [(nk e.2.2, v)]) (zs ++ [e.2.2]) := by
  refine ⟨by rw [List.map_append, List.map_append, h.keys]; rfl, ?_, ?_, ?_, List.mem_append_left _ h.st⟩
  · rw [List.nodup_append]
    exact ⟨h.nd, by simp, fun x hx y hy e => h2 (by rw [List.mem_singleton.mp hy] at e; exact e ▸ hx)⟩
  · intro z hm
    rcases List.mem_append.mp hm with hm | hm
    · exact h.sub z hm
    · rw [List.mem_singleton.mp hm]
      exact List.mem_cons_of_mem _ (List.mem_map.mpr ⟨e, he, rfl⟩)
  · intro z hm
    rcases List.mem_append.mp hm with hm | hm
    · exact h.conn z hm
    · rw [List.mem_singleton.mp hm]
      obtain ⟨R, hR⟩ := h.conn _ h1
      exact ⟨_, hR.snoc he⟩
theorem same_both {H H' : Hp} {d : Addr} {o : HO} (s : Same H H') : Same (upd H d o) (upd H' d o) := fun r u e => by
  by_cases c : r = d
  · subst c; rw [upd_same] at e ⊢; exact e
  · rw [upd_ne c] at e ⊢; exact s r u e
abbrev st_reached_posts : Stmt := topS 33
abbrev N_reached_posts : List Str := ["net", "start", "found", "going", "lane", "first", "second", "post"]
theorem sc_reached_posts : FnScope N_reached_posts ["net", "start"] (defScope st_reached_posts) := ⟨rfl, rfl, rfl, by decide +kernel, rfl, by decide +kernel, by decide +kernel⟩
theorem ok_reached_posts (T : Top K mg) (cN : CF K CN netF) (F : Dn K mg "reached_posts" st_reached_posts) : Cal P w K mg base 1 "reached_posts" (spReach CN) := by
  refine F.cal sc_reached_posts (fun vs H Q E h => ?_) (fun _ _ _ _ _ _ us hl => match us, hl with | [_, _], _ => rfl) (fun f cdv A outer s H vs Q E hr h => ?_)
  · obtain ⟨a, start, posts, lanes, rfl, _⟩ := h
    rfl
  · obtain ⟨a, start, posts, lanes, rfl, hn, hnd, h8, hp5, k⟩ := h
    obtain ⟨dx, fs, o, d, kvs, h1, h2, h3, h4, h5, h6, h7⟩ := hn.ex
    have hda : a ≠ d := fun z => by rw [z, h6] at h1; cases h1
    have hdo : o ≠ d := fun z => by
      have h5' : H o = some (.lst (posts.map V.str)) := h5
      rw [z, h6] at h5'; cases h5'
    refine ⟨_, (pss_cons (ps_set (i := 2) sc_reached_posts.nd rfl (Or.inr rfl) (pe_disp (pps_cons (pv 1) pe_bl pps_nil) rfl rfl (fun z => nomatch z) (by decide)))
  (pss_cons (ps_set (i := 3) sc_reached_posts.nd rfl (Or.inl rfl) pe_bl)
  (pss_cons (ps_while PassesOwn.never (pt_val (pv 3)) (pss_cons (ps_set (i := 3) sc_reached_posts.nd rfl (Or.inl rfl) pe_bl)
  (pss_one (ps_lock (ps_for PassesOwn.never rfl (pi_keys (pe_fld (pv 0) rfl)) (pg_name (i := 4) sc_reached_posts.nd rfl (Or.inl rfl)) (pss_cons (ps_asg (pe_dget (hu1 hr) (pe_fld (pv 0) rfl) (pv 4) (fun _ _ => rfl)) (pg_tup rfl (pgs_cons (pg_name (i := 5) sc_reached_posts.nd rfl (Or.inl rfl)) (pgs_cons (pg_name (i := 6) sc_reached_posts.nd rfl (Or.inl rfl)) pgs_nil))))
  (pss_one (ps_if (PW.pt (pw_and (pt_cmp (pc_din (hu1 hr) (pv 5) (pv 2)) rfl) (pw_and1 (pt_cmp (pc_dnotin (hu1 hr) (pv 6) (pv 2)) rfl)))) (pss_cons (ps_dput (hu1 hr) (pv 2) (pv 6) pe_bl rfl)
  (pss_one (ps_set (i := 3) sc_reached_posts.nd rfl (Or.inl rfl) pe_bl))) pss_nil))))))))
  (pss_one (ps_ret (pe_callTy (call_tuple_of : CallR _ _ (rTupQ K)) rfl T.b_tuple (by decide +kernel) (pa_cons (pe_lc (own := [("post", 7)]) (g := (gName 7)) rfl sc_reached_posts.nd (pi_list (pe_fld (pv 0) rfl)) (blkOk_by (N := N_reached_posts) (sc := defScope st_reached_posts) (by decide +kernel)) (fun _ _ _ _ _ => (pg_name (i := 7) sc_reached_posts.nd rfl (Or.inl rfl))) (fun _ _ _ _ _ => (pts_one (pt_cmp (pc_din (hu1 hr) (pv 7) (pv 2)) rfl))) (fun _ _ _ _ _ => (pv 7))) pa_nil))))))), ?_⟩
    walk_at "r"
    refine r_disp1 fun fd H1 s1 hfd hfd0 => ?_
    walk_at "r"
    refine dispP.mk (k := nk start) hfd ?_
    have hfd0' := hfd0
    have s2 : Same H (upd H1 fd (.dK [(nk start, .bl true)])) := s1.upd_mut hfd0
    have hfd2 : upd H1 fd (.dK [(nk start, .bl true)]) fd = some (.dK [(nk start, .bl true)]) := upd_same
    revert s2 hfd2
    generalize upd H1 fd (.dK [(nk start, .bl true)]) = H2
    intro s2 hfd2
    have hfdd : fd ≠ d := fun z => by rw [z, h6] at hfd0; cases hfd0
    have hfda : fd ≠ a := fun z => by rw [z, h1] at hfd0; cases hfd0
    walk_at "r"
    have F0 : Fnd lanes start [(nk start, .bl true)] [start] := ⟨rfl, by simp, fun z hz => by rw [List.mem_singleton.mp hz]; exact List.mem_cons_self, fun z hz => by rw [List.mem_singleton.mp hz]; exact ⟨[], Way.nil⟩, List.mem_singleton.mpr rfl⟩
    refine r_while (fun m σ H' => ∃ (kv : List (Key × V)) (zs : List Str) (going : Bool) (y4 y5 y6 y7 : Option V), m = 2 * (20 - zs.length) + (if going then 1 else 0) ∧ Same H H' ∧ H' fd = some (.dK kv) ∧ Fnd lanes start kv zs ∧ (going = false → ∀ e ∈ lanes, e.2.1 ∈ zs → e.2.2 ∈ zs) ∧
      σ = [some (.ref a), some (.str start), some (.ref fd), some (.bl going), y4, y5, y6, y7]) _ ⟨_, _, true, _, _, _, _, rfl, s2, hfd2, F0, (fun z => by cases z), rfl⟩ ?_
    rintro m σ H3 ⟨kv, zs, going, y4, y5, y6, y7, rfl, s3, hfd3, hF, hcl, rfl⟩
    have hlen := hF.len h8
    walk_at "r"
    cases going with
    | true =>
      refine r_yes rfl ?_
      refine ⟨_, fun _ _ h => h, ?_⟩
      walk_at "r"
      refine r_lockS ⟨d, _, s3 _ _ h6, trivial, fun od => ?_⟩
      have s4 : Same (upd H d (.frz od (.dK kvs))) (upd H3 d (.frz od (.dK kvs))) := same_both s3
      have hfd4 : upd H3 d (.frz od (.dK kvs)) fd = some (.dK kv) := by rw [upd_ne hfdd]; exact hfd3
      revert s4 hfd4
      generalize upd H3 d (.frz od (.dK kvs)) = H4
      intro s4 hfd4
      refine r_iKeys ?_
      walk_at "r"
      refine r_field cN (by decide) (s4 _ _ (lock_same h1 hda)) h3 ?_
      refine ⟨d, od, rfl, .inl ⟨kvs, s4 _ _ upd_same, ?_⟩⟩
      refine for_it (walk_keys (d := d) (o := od) (kvs := kvs)) (fun j σ H' => ∃ (kv2 : List (Key × V)) (zs2 : List Str) (going : Bool) (y4 y5 y6 y7 : Option V), zs.length ≤ zs2.length ∧ (going = true → zs.length < zs2.length) ∧ (going = false → ∀ e ∈ lanes.take j, e.2.1 ∈ zs2 → e.2.2 ∈ zs2) ∧
        Same (upd H d (.frz od (.dK kvs))) H' ∧ H' fd = some (.dK kv2) ∧ Fnd lanes start kv2 zs2 ∧ σ = [some (.ref a), some (.str start), some (.ref fd), some (.bl going), y4, y5, y6, y7])
        ⟨kv, zs, false, _, _, _, _, Nat.le_refl _, (fun z => by cases z), (by simp), s4, hfd4, hF, rfl⟩ (fun i σ H' _ ⟨_, _, _, _, _, _, _, _, _, _, s, _⟩ => s _ _ upd_same) ?_ ?_
      · clear hfd4 s4 hF hlen hfd3 s3 hcl
        rintro j v σ H5' H5 hj ⟨kv2, zs2, going, y4, y5, y6, y7, hle, hgt, hcl, s5, hfd5, hF, rfl⟩ ⟨rfl, kk, vv, hkv, rfl⟩
        have hlen := hF.len h8
        obtain ⟨e, he, hk1, _⟩ := h7.at hkv
        have hk1 : kk = nk e.1 := hk1
        subst hk1
        obtain ⟨t, ht, ht2⟩ := endv_get h7 hnd (List.mem_of_getElem? he)
        have htd : t ≠ d := fun z => by rw [z, h6] at ht2; cases ht2
        walk_at "r"
        refine r_field cN (by decide) (s5 _ _ (lock_same h1 hda)) h3 ?_
        walk_at "r"
        refine ⟨d, _, rfl, by rw [← ht]; exact DGet.frz (k := nk e.1) (s5 _ _ upd_same), ?_⟩
        walk_at "r"
        refine r_gtup (s5 _ _ (lock_same ht2 htd)) rfl ?_
        walk_at "r"
        refine ⟨fd, _, rfl, DGet.k (k := nk e.2.1) hfd5, ?_⟩
        walk_at "r"
        rw [hF.isSome]
        by_cases c1 : e.2.1 ∈ zs2
        · refine r_yes (decide_eq_true c1) ?_
          walk_at "r"
          refine ⟨fd, _, rfl, DGet.k (k := nk e.2.2) hfd5, ?_⟩
          walk_at "r"
          rw [hF.isSome]
          by_cases c2 : e.2.2 ∈ zs2
          · refine r_no (by rw [decide_eq_true c2]; rfl) ?_
            walk_at "r"
            refine ⟨kv2, zs2, going, _, _, _, _, hle, hgt, (fun hg e' he' h => ?_), s5, hfd5, hF, rfl⟩
            rw [take_snoc he] at he'
            rcases List.mem_append.mp he' with h1 | h1
            · exact hcl hg e' h1 h
            · rw [List.mem_singleton.mp h1]; exact c2
          · refine r_yes (by rw [decide_eq_false c2]; rfl) ?_
            walk_at "r"
            refine ⟨fd, _, rfl, DPut.k (k := nk e.2.2) hfd5 (small_lt (by omega)), ?_⟩
            rw [putK_new (by rw [hF.keys, nk_mem]; exact c2)]
            walk_at "r"
            refine ⟨kv2 ++ [(nk e.2.2, .bl true)], zs2 ++ [e.2.2], true, _, _, _, _, by rw [List.length_append]; omega, (fun _ => by rw [List.length_append]; show _ < _ + 1; omega), (fun z => by cases z), s5.upd_mut (by rw [upd_ne hfdd]; exact hfd0'), upd_same, hF.put (List.mem_of_getElem? he) c1 c2 _, rfl⟩
        · refine r_no (decide_eq_false c1) ?_
          walk_at "r"
          refine ⟨kv2, zs2, going, _, _, _, _, hle, hgt, (fun hg e' he' h => ?_), s5, hfd5, hF, rfl⟩
          rw [take_snoc he] at he'
          rcases List.mem_append.mp he' with h1 | h1
          · exact hcl hg e' h1 h
          · rw [List.mem_singleton.mp h1] at h; exact absurd h c1
      · clear hfd4 s4 hF hlen hfd3 s3 hcl
        rintro σ H5 ⟨kv2, zs2, going, y4, y5, y6, y7, hle, hgt, hcl, s5, hfd5, hF, rfl⟩
        have hlen := hF.len h8
        refine ⟨s5 _ _ upd_same, _, ?_, kv2, zs2, going, y4, y5, y6, y7, rfl, lock_back h6 s5, by rw [upd_ne hfdd]; exact hfd5, hF, (fun hg e he => ?_), rfl⟩
        · cases going with
          | true => have := hgt rfl; show _ + 1 < _ + 1; omega
          | false => show _ + 0 < _ + 1; omega
        · exact hcl hg e (by rw [h7.1, List.take_length]; exact he)
    | false =>
      refine r_no rfl ?_
      have hcl := hcl rfl
      walk_at "r"
      refine r_field cN (by decide) (s3 _ _ h1) h2 ?_
      refine ⟨o, rfl, ⟨_, .inl (.inl (s3 _ _ h5))⟩, fun Dl hD => ?_⟩
      have hDf : fd ≠ Dl := fun z => by rw [← z, hfd3] at hD; cases hD
      let ff : Str → Bool := fun z => decide (z ∈ zs)
      refine lc_it (walk_list (xs := posts.map V.str)) (fun j H' => Same H3 H' ∧ StrL H' Dl ((posts.take j).filter ff)) ⟨same_upd hD, upd_same⟩ (fun _ _ _ h => .inl (.inl (h.1 _ _ (s3 _ _ h5)))) ?_ ?_
      · rintro j v H6' H6 hj ⟨s6, hDl⟩ ⟨rfl, hx⟩
        rw [List.getElem?_map] at hx
        obtain ⟨z, hz, rfl⟩ := Option.map_eq_some_iff.mp hx
        have hfl : ((posts.take j).filter ff).length ≤ 5 := Nat.le_trans (List.length_filter_le _ _) (by rw [List.length_take]; omega)
        walk_at "r"
        refine ⟨rfl, ?_⟩
        walk_at "r"
        refine ⟨fd, _, rfl, DGet.k (k := nk z) (s6 _ _ hfd3), ?_⟩
        walk_at "r"
        rw [hF.isSome]
        rw [take_snoc hz, List.filter_append]
        by_cases c : z ∈ zs
        · refine r_yes (decide_eq_true c) ?_
          walk_at "r"
          refine ⟨_, hDl, by rw [List.length_map]; exact small_lt (by omega), s6.upd_mut hD, ?_⟩
          show upd _ _ _ _ = _
          rw [upd_same, List.filter_cons_of_pos (p := ff) (decide_eq_true c), List.filter_nil, List.map_append]
          rfl
        · refine r_no (decide_eq_false c) ?_
          refine ⟨s6, ?_⟩
          rw [List.filter_cons_of_neg (p := ff) (by show ¬ decide (z ∈ zs) = true; rw [decide_eq_false c]; decide), List.filter_nil, List.append_nil]
          exact hDl
      · rintro H6 ⟨s6, hDl⟩
        rw [List.length_map, List.take_length] at hDl
        walk_at "r"
        refine e_tupQ (Same.refl _) hDl fun q G2 H7 e2 hq hq0 => k q _ H7 (s3.trans (s6.trans e2.same)) (free_of (s3.trans s6) hq0) (e2.at hq) (fun z => ?_) (Nat.le_trans (List.length_filter_le _ _) hp5)
        rw [List.mem_filter]
        refine ⟨fun ⟨p, q⟩ => ⟨p, hF.conn z (of_decide_eq_true q)⟩, fun ⟨p, q⟩ => ⟨p, decide_eq_true (conn_closed (C := (· ∈ zs)) hcl hF.st q)⟩⟩
end
end K48
/-! ## KD25 -/
set_option maxHeartbeats 4000000
namespace K48
open PySem L2
local macro_rules | `(tactic| walk_at "r1") => `(tactic| first
  | with_reducible refine r_seq ?_ | with_reducible refine r_asg ?_ | with_reducible refine r_ret ?_ | with_reducible refine r_drop ?_ | with_reducible refine r_if ?_ | with_reducible refine r_next ?_
  | with_reducible refine r_name ?_ | with_reducible refine r_c ?_ | ((with_reducible show tVar _ _ _ _); refine r_var rfl ?_) | with_reducible refine r_op ?_ | with_reducible refine r_un ?_
  | with_reducible refine r_i0 ?_ | with_reducible refine r_test ?_ | with_reducible refine r_tB ?_ | with_reducible refine r_bl ?_ | with_reducible refine r_and ?_ | with_reducible refine r_or ?_
  | with_reducible refine r_not ?_ | with_reducible refine r_ifE ?_ | with_reducible refine r_cons ?_ | with_reducible refine r_nil ?_ | with_reducible refine r_cb ?_ | with_reducible refine r_call ?_
  | with_reducible refine r_lstG ?_ | with_reducible refine r_tupG ?_ | with_reducible refine r_sl ?_ | with_reducible refine r_noP ?_ | with_reducible refine r_part ?_ | with_reducible refine r_exI ?_
  | with_reducible refine r_tr ?_ | with_reducible refine r_fa ?_ | with_reducible refine r_for ?_ | with_reducible refine r_iList ?_ | with_reducible refine r_iTup ?_ | with_reducible refine r_iStr ?_
  | with_reducible refine r_iR1 ?_ | with_reducible refine r_iR2 ?_ | with_reducible refine r_lc ?_ | with_reducible refine r_nt ?_ | with_reducible refine r_nf ?_ | with_reducible refine r_orV ?_ | with_reducible refine r_andV ?_ | with_reducible refine r_yesT ?_ | with_reducible refine r_gsub ?_ | with_reducible refine r_gcons ?_ | with_reducible refine r_gnil ?_ | with_reducible refine r_bm ?_ | with_reducible refine r_bm0 ?_
  | with_reducible refine r_fldG ?_ | with_reducible refine r_sfldG ?_ | with_reducible refine r_meth ?_ | with_reducible refine r_make ?_ | with_reducible refine r_dget ?_ | with_reducible refine r_din ?_ | with_reducible refine r_dnin ?_ | with_reducible refine r_dput ?_
  | with_reducible refine r_dgetN ?_ | with_reducible refine r_dinN ?_ | with_reducible refine r_dninN ?_ | with_reducible refine r_dputN ?_ | ((with_reducible show tAug _ _ _ _ _ _); refine r_aug rfl ?_) | with_reducible refine r_par ?_ | with_reducible refine r_neg ?_ | with_reducible refine r_iEnum ?_ | with_reducible refine r_iZip ?_ | with_reducible refine r_iZipA ?_)
local macro_rules | `(tactic| walk_at "r") => `(tactic| repeat walk_at "r1")

theorem Way.flip {lanes : List (Lane Str)} {p q : Str} (h : Conn (lanes.map flipL) p q) : Conn lanes q p := by
  refine conn_closed_back (lanes := lanes.map flipL) (C := fun z => Conn lanes q z) (fun e he hc => ?_) ⟨[], Way.nil⟩ h
  obtain ⟨e0, h0, rfl⟩ := List.mem_map.mp he
  obtain ⟨R, hR⟩ := hc
  exact ⟨_, hR.snoc h0⟩
theorem flip_flip (lanes : List (Lane Str)) : (lanes.map flipL).map flipL = lanes := by
  rw [List.map_map]
  exact (List.map_congr_left fun _ _ => rfl).trans (List.map_id _)
theorem conn_flip {lanes : List (Lane Str)} {p q : Str} : Conn (lanes.map flipL) p q ↔ Conn lanes q p :=
  ⟨Way.flip, fun h => Way.flip (lanes := lanes.map flipL) (by rw [flip_flip]; exact h)⟩
def spBefore (CN : Addr) : Sp := fun vs H Q _ => ∃ (a e : Addr) (G : Hp) (posts ends : List Str) (lanes : List (Lane Str)), vs = [.ref a, .ref e] ∧ Same G H ∧ NetAt CN G a posts lanes ∧ (lanes.map (·.1)).Nodup ∧ lanes.length ≤ 8 ∧ posts.length ≤ 5 ∧ StrT G e ends ∧ ends.length ≤ 5 ∧
  ∀ (q : Addr) (rs : List Str) (G' H' : Hp), Grow no G H G' H' → StrL G' q rs → (∀ z, z ∈ rs ↔ z ∈ posts ∧ ∃ x ∈ ends, Conn lanes z x) → Q (.ref q) H'
section
variable {P : Program} {w : World} {K : PySem.W.Frag} {mg : Str → Option Value} {base : Heap} {CN : Addr}
abbrev st_posts_before : Stmt := topS 65
abbrev N_posts_before : List Str := ["net", "ends", "found", "end", "post"]
theorem sc_posts_before : FnScope N_posts_before ["net", "ends"] (defScope st_posts_before) := ⟨rfl, rfl, rfl, by decide +kernel, rfl, by decide +kernel, by decide +kernel⟩
theorem ok_posts_before (T : Top K mg) (cN : CF K CN netF) (F : Dn K mg "posts_before" st_posts_before) (c_neg : Spc P w K mg base 3 CN "__neg__" (spNCopy CN (fun l => l.map flipL))) (c_reached_posts : Cal P w K mg base 1 "reached_posts" (spReach CN)) : Cal P w K mg base 4 "posts_before" (spBefore CN) := by
  refine F.cal sc_posts_before (fun vs H Q E h => ?_) (fun _ _ _ _ _ _ us hl => match us, hl with | [_, _], _ => rfl) (fun f cdv A outer s H vs Q E hr h => ?_)
  · obtain ⟨a, e, G, posts, ends, lanes, rfl, _⟩ := h
    rfl
  · obtain ⟨a, e, G, posts, ends, lanes, rfl, sg, hn, hnd, h8, hp5, he, he5, k⟩ := h
    obtain ⟨dx, fs, o, d, kvs, h1, h2, h3, h4, h5, h6, h7⟩ := hn.ex
    refine ⟨_, (pss_cons (ps_set (i := 2) sc_posts_before.nd rfl (Or.inr rfl) (pe_lst pa_nil))
  (pss_cons (ps_for PassesOwn.never rfl (pi_tup (pv 1)) (pg_name (i := 3) sc_posts_before.nd rfl (Or.inl rfl)) (pss_one (ps_set (i := 2) sc_posts_before.nd rfl (Or.inr rfl) (pe_op op_cat (pv 2) (pe_lc (own := [("post", 4)]) (g := (gName 4)) rfl sc_posts_before.nd (pi_tup (C8.pe_c c_reached_posts hr (by omega) rfl (pa_cons (pe_un (un_own c_neg hr (by omega)) (pv 0)) (pa_cons (pv 3) pa_nil)))) (blkOk_by (N := N_posts_before) (sc := defScope st_posts_before) (by decide +kernel)) (fun _ _ _ _ _ => (pg_name (i := 4) sc_posts_before.nd rfl (Or.inl rfl))) (fun _ _ _ _ _ => (pts_one (pt_cmpR (op_notIn_seq : OpR _ _ (rIn K true)) (pv 4) (pv 2) (by rfl)))) (fun _ _ _ _ _ => (pv 4)))))))
  (pss_one (ps_ret (pv 2))))), ?_⟩
    walk_at "r"
    refine e_lst sg rfl fun l0 G1 H1 e1 hl0 _ => ?_
    walk_at "r"
    refine ⟨e, rfl, ⟨_, .inl (.inl (e1.at (e1.gg _ _ he)))⟩, ?_⟩
    refine for_it (walk_tup (xs := ends.map V.str)) (fun i σ H' => ∃ (G' : Hp) (l : Addr) (rs : List Str) (y3 y4 : Option V), Grow no G H G' H' ∧ StrL G' l rs ∧ rs.length ≤ 5 * i ∧ (∀ z, z ∈ rs ↔ z ∈ posts ∧ ∃ x ∈ ends.take i, Conn lanes z x) ∧ σ = [some (.ref a), some (.ref e), some (.ref l), y3, y4])
      ⟨G1, l0, [], _, _, e1, hl0, Nat.zero_le _, (fun z => by simp), rfl⟩ (fun i σ H' _ ⟨_, _, _, _, _, g, _⟩ => .inl (.inl (g.at (g.gg _ _ he)))) ?_ ?_
    · rintro i v σ H2' H2 hi ⟨G2, l, rs, y3, y4, g, hl, hrl, hrs, rfl⟩ ⟨rfl, hx⟩
      rw [List.getElem?_map] at hx
      obtain ⟨x, hxe, rfl⟩ := Option.map_eq_some_iff.mp hx
      rw [List.length_map] at hi
      walk_at "r"
      have hn2 := hn.mono g.gg
      obtain ⟨dx, fs, o, d, kvs, h1, _⟩ := hn2.ex
      refine ⟨a, dx, fs, rfl, g.at h1, a, posts, lanes, G2, rfl, g.gh, hn2, hnd, h8, fun qn G3 H3 e3 hqn => ?_⟩
      have g := g.trans e3
      walk_at "r"
      refine ⟨qn, x, posts, lanes.map flipL, rfl, hqn.mono g.gh, by rw [List.map_map]; exact hnd, by rw [List.length_map]; exact h8, hp5, fun qr rr H4 s4 hqr0 hqr hmem hrr => ?_⟩
      have e4 := ((Grow.refl g.gh (m := no)).heap s4).tell hqr hqr0
      revert e4
      generalize upd G3 qr _ = G4
      intro e4
      have g := g.trans e4
      have hl4 : StrL G4 l rs := e4.gg _ _ (e3.gg _ _ hl)
      refine ⟨qr, rfl, ⟨_, .inl (.inl hqr)⟩, fun Dl hD => ?_⟩
      let ff : Str → Bool := fun z => !decide (z ∈ rs)
      have hff : ∀ j, ((rr.take j).filter ff).length ≤ 5 := fun j => Nat.le_trans (List.length_filter_le _ _) (by rw [List.length_take]; omega)
      refine lc_it (walk_tup (xs := rr.map V.str)) (fun j H' => Same H4 H' ∧ StrL H' Dl ((rr.take j).filter ff)) ⟨same_upd hD, upd_same⟩ (fun _ _ _ h => .inl (.inl (h.1 _ _ hqr))) ?_ ?_
      · rintro j v H6' H6 hj ⟨s6, hDl⟩ ⟨rfl, hx⟩
        rw [List.getElem?_map] at hx
        obtain ⟨z, hz, rfl⟩ := Option.map_eq_some_iff.mp hx
        walk_at "r"
        refine ⟨rfl, ?_⟩
        walk_at "r"
        refine r_ninS (ks := rs) (.inl (.inl (.inl (s6 _ _ (g.at hl4))))) ?_
        walk_at "r"
        rw [take_snoc hz, List.filter_append]
        by_cases c : z ∈ rs
        · refine r_no (by rw [decide_eq_true c]; rfl) ?_
          refine ⟨s6, ?_⟩
          rw [List.filter_cons_of_neg (p := ff) (by show ¬ (!decide (z ∈ rs)) = true; rw [decide_eq_true c]; decide), List.filter_nil, List.append_nil]
          exact hDl
        · refine r_yes (by rw [decide_eq_false c]; rfl) ?_
          walk_at "r"
          refine ⟨_, hDl, by rw [List.length_map]; exact small_lt (by have := hff j; omega), s6.upd_mut hD, ?_⟩
          show upd _ _ _ _ = _
          rw [upd_same, List.filter_cons_of_pos (p := ff) (by show (!decide (z ∈ rs)) = true; rw [decide_eq_false c]; rfl), List.filter_nil, List.map_append]
          rfl
      · rintro H6 ⟨s6, hDl⟩
        rw [List.length_map, List.take_length] at hDl
        have hrl2 := hff rr.length
        rw [List.take_length] at hrl2
        have g := (g.heap s6).tell hDl ((g.freeN hD))
        have hl5 : upd G4 Dl (.lst ((rr.filter ff).map V.str)) l = some (.lst (rs.map V.str)) := by rw [upd_ne (ne_of_none (e4.at hl4) hD)]; exact hl4
        refine e_cat g.gh hl5 upd_same (by rw [List.length_map, List.length_map]; omega) fun l3 G7 H7 e7 hl3 _ => ?_
        have g := g.trans e7
        walk_at "r"
        refine ⟨G7, l3, rs ++ rr.filter ff, _, _, g, by rw [StrL, List.map_append]; exact hl3, by rw [List.length_append]; omega, (fun z => ?_), rfl⟩
        rw [List.mem_append, List.mem_filter, hmem, hrs, take_snoc hxe]
        have : (∃ y ∈ ends.take i ++ [x], Conn lanes z y) ↔ (∃ y ∈ ends.take i, Conn lanes z y) ∨ Conn lanes z x := by
          constructor
          · rintro ⟨y, hy, hc⟩
            rcases List.mem_append.mp hy with hy | hy
            · exact .inl ⟨y, hy, hc⟩
            · rw [List.mem_singleton.mp hy] at hc; exact .inr hc
          · rintro (⟨y, hy, hc⟩ | hc)
            · exact ⟨y, List.mem_append_left _ hy, hc⟩
            · exact ⟨x, List.mem_append_right _ (List.mem_singleton.mpr rfl), hc⟩
        rw [this]
        show _ ∨ (_ ∧ (!decide (z ∈ rs)) = true) ↔ _
        rw [conn_flip]
        constructor
        · rintro (⟨p, q⟩ | ⟨⟨p, q⟩, _⟩)
          · exact ⟨p, .inl q⟩
          · exact ⟨p, .inr q⟩
        · rintro ⟨p, q | q⟩
          · exact .inl ⟨p, q⟩
          · by_cases c : z ∈ rs
            · exact .inl ((hrs z).mp c)
            · exact .inr ⟨⟨p, q⟩, by rw [decide_eq_false c]; rfl⟩
    · rintro σ H2 ⟨G2, l, rs, y3, y4, g, hl, hrl, hrs, rfl⟩
      rw [List.length_map, List.take_length] at hrs
      walk_at "r"
      exact k l rs G2 H2 g hl hrs
end
end K48
/-! ## KD26 -/
set_option maxHeartbeats 4000000
namespace K48
open PySem L2
local macro_rules | `(tactic| walk_at "r1") => `(tactic| first
  | with_reducible refine r_seq ?_ | with_reducible refine r_asg ?_ | with_reducible refine r_ret ?_ | with_reducible refine r_drop ?_ | with_reducible refine r_if ?_ | with_reducible refine r_next ?_
  | with_reducible refine r_name ?_ | with_reducible refine r_c ?_ | ((with_reducible show tVar _ _ _ _); refine r_var rfl ?_) | with_reducible refine r_op ?_ | with_reducible refine r_un ?_
  | with_reducible refine r_i0 ?_ | with_reducible refine r_test ?_ | with_reducible refine r_tB ?_ | with_reducible refine r_bl ?_ | with_reducible refine r_and ?_ | with_reducible refine r_or ?_
  | with_reducible refine r_not ?_ | with_reducible refine r_ifE ?_ | with_reducible refine r_cons ?_ | with_reducible refine r_nil ?_ | with_reducible refine r_cb ?_ | with_reducible refine r_call ?_
  | with_reducible refine r_lstG ?_ | with_reducible refine r_tupG ?_ | with_reducible refine r_sl ?_ | with_reducible refine r_noP ?_ | with_reducible refine r_part ?_ | with_reducible refine r_exI ?_
  | with_reducible refine r_tr ?_ | with_reducible refine r_fa ?_ | with_reducible refine r_for ?_ | with_reducible refine r_iList ?_ | with_reducible refine r_iTup ?_ | with_reducible refine r_iStr ?_
  | with_reducible refine r_iR1 ?_ | with_reducible refine r_iR2 ?_ | with_reducible refine r_lc ?_ | with_reducible refine r_nt ?_ | with_reducible refine r_nf ?_ | with_reducible refine r_orV ?_ | with_reducible refine r_andV ?_ | with_reducible refine r_yesT ?_ | with_reducible refine r_gsub ?_ | with_reducible refine r_gcons ?_ | with_reducible refine r_gnil ?_ | with_reducible refine r_bm ?_ | with_reducible refine r_bm0 ?_
  | with_reducible refine r_fldG ?_ | with_reducible refine r_sfldG ?_ | with_reducible refine r_meth ?_ | with_reducible refine r_make ?_ | with_reducible refine r_dget ?_ | with_reducible refine r_din ?_ | with_reducible refine r_dnin ?_ | with_reducible refine r_dput ?_
  | with_reducible refine r_dgetN ?_ | with_reducible refine r_dinN ?_ | with_reducible refine r_dninN ?_ | with_reducible refine r_dputN ?_ | ((with_reducible show tAug _ _ _ _ _ _); refine r_aug rfl ?_) | with_reducible refine r_par ?_ | with_reducible refine r_neg ?_ | with_reducible refine r_iEnum ?_ | with_reducible refine r_iZip ?_ | with_reducible refine r_iZipA ?_)
local macro_rules | `(tactic| walk_at "r") => `(tactic| repeat walk_at "r1")

def spPost (CN : Addr) : Sp := fun vs H Q _ => ∃ (a dx o : Addr) (fs : List (Str × V)) (posts : List Str) (z : Str), vs = [.ref a, .str z] ∧ H a = some (.ins CN dx fs) ∧ fld fs "order" = some (.ref o) ∧ StrL H o posts ∧ z ∉ posts ∧ IsNm z ∧ posts.length ≤ 100 ∧ ∀ H1, Same H H1 → Q .non (upd H1 o (.lst (posts.map V.str ++ [.str z])))
def spLane (CN : Addr) : Sp := fun vs H Q _ => ∃ (a dx o d : Addr) (fs : List (Str × V)) (posts : List Str) (kvs : List (Key × V)) (e : Lane Str), vs = [.ref a, .str e.1, .str e.2.1, .str e.2.2] ∧ H a = some (.ins CN dx fs) ∧ fld fs "order" = some (.ref o) ∧ fld fs "ends_by_lane" = some (.ref d) ∧ StrL H o posts ∧ H d = some (.dK kvs) ∧
  nk e.1 ∉ kvs.map (·.1) ∧ e.2.1 ∈ posts ∧ e.2.2 ∈ posts ∧ IsNm e.1 ∧ kvs.length ≤ 100 ∧ ∀ t H1, Same H H1 → H t = none → H1 t = some (.tup [.str e.2.1, .str e.2.2]) → Q .non (upd H1 d (.dK (kvs ++ [(nk e.1, .ref t)])))
def spBuilt (CN : Addr) : Sp := fun vs H Q _ => ∃ (q : Addr) (G : Hp) (posts : List Str) (lanes : List (Lane Str)), vs = [.ref q] ∧ Same G H ∧ PartsAt G q posts lanes ∧ NetD posts lanes ∧ ∀ (x : Addr) (G' H' : Hp), Grow no G H G' H' → NetAt CN G' x posts lanes → Q (.ref x) H'
section
variable {P : Program} {w : World} {K : PySem.W.Frag} {mg : Str → Option Value} {base : Heap} {CN : Addr}
theorem r_make0 {C : Addr} {sp : Sp} {E : XK} {dvs : List V} {σ : St} {G1 H : Hp} {Q : VK} (s : Same G1 H) (k : ∀ x dx H2, Same H H2 → H x = none → G1 x = none → H2 x = some (.ins C dx []) → sp (.ref x :: dvs) H2 (fun v H3 => v = .non ∧ Q (.ref x) H3) E) : tMake C sp dvs E tNil σ H Q :=
  show ∀ x dx, H x = none → H dx = none → dx ≠ x → sp (.ref x :: dvs) (upd (upd H dx (.own x)) x (.ins C dx [])) (fun v H2 => v = .non ∧ Q (.ref x) H2) E from e_make s k
abbrev st_Net_post : Stmt := inClass (topS 30) 3
abbrev N_Net_post : List Str := ["self", "name"]
theorem sc_Net_post : FnScope N_Net_post ["self", "name"] (defScope st_Net_post) := ⟨rfl, rfl, rfl, by decide +kernel, rfl, by decide +kernel, by decide +kernel⟩
theorem ok_Net_post (T : Top K mg) (cN : CF K CN netF) (F : Mn K CN "post" "Net.post" st_Net_post) (c_is_name : Cal P w K mg base 1 "is_name" spIsName) : C8.Met P w K mg base 2 CN "post" (spPost CN) [] := by
  refine F.met cN.cls sc_Net_post (fun vs H Q E h => ?_) (fun _ _ _ _ _ _ us hl => match us, hl with | [_, _], _ => rfl) (fun f cdv A outer s H vs Q E hr h => ?_)
  · obtain ⟨a, dx, o, fs, posts, z, rfl, _⟩ := h
    rfl
  · obtain ⟨a, dx, o, fs, posts, z, rfl, h1, h2, h3, h4, h5, h6, k⟩ := h
    refine ⟨_, (pss_cons (ps_if (pt_not (pt_val (C8.pe_c c_is_name hr (by omega) rfl (pa_cons (pv 1) pa_nil)))) (pss_one ps_never) pss_nil)
  (pss_cons (ps_if (pt_cmpR op_in_seq (pv 1) (pe_fld (pv 0) rfl) (by rfl)) (pss_one ps_never) pss_nil)
  (pss_one (ps_expr (pe_bm PySem.F.plainAttrs_list PySem.F.slot_list_append PySem.F.type_list_append mt_append (pe_fld (pv 0) rfl) (pa_cons (pv 1) pa_nil)))))), ?_⟩
    walk_at "r"
    refine ⟨z, rfl, h5, fun H1 s1 => ?_⟩
    walk_at "r"
    refine r_field cN (by decide) (s1 _ _ h1) h2 ?_
    refine r_inS (ks := posts) (.inl (.inl (.inl (s1 _ _ h3)))) ?_
    walk_at "r"
    refine r_no (decide_eq_false h4) ?_
    walk_at "r"
    refine r_field cN (by decide) (s1 _ _ h1) h2 ?_
    walk_at "r"
    refine r_tyL (s1 _ _ h3) ?_
    walk_at "r"
    refine r_app (s1 _ _ h3) (by rw [List.length_map]; exact small_lt (by omega)) ?_
    exact k H1 s1
abbrev st_Net_lane : Stmt := inClass (topS 30) 4
abbrev N_Net_lane : List Str := ["self", "name", "start", "end", "place"]
theorem sc_Net_lane : FnScope N_Net_lane ["self", "name", "start", "end"] (defScope st_Net_lane) := ⟨rfl, rfl, rfl, by decide +kernel, rfl, by decide +kernel, by decide +kernel⟩
theorem ok_Net_lane (T : Top K mg) (cN : CF K CN netF) (F : Mn K CN "lane" "Net.lane" st_Net_lane) (c_is_name : Cal P w K mg base 1 "is_name" spIsName) : C8.Met P w K mg base 2 CN "lane" (spLane CN) [] := by
  refine F.met cN.cls sc_Net_lane (fun vs H Q E h => ?_) (fun _ _ _ _ _ _ us hl => match us, hl with | [_, _, _, _], _ => rfl) (fun f cdv A outer s H vs Q E hr h => ?_)
  · obtain ⟨a, dx, o, d, fs, posts, kvs, e, rfl, _⟩ := h
    rfl
  · obtain ⟨a, dx, o, d, fs, posts, kvs, e, rfl, h1, h2, h3, h4, h5, h6, h7, h8, h9, h10, k⟩ := h
    refine ⟨_, (pss_cons (ps_if (pt_not (pt_val (C8.pe_c c_is_name hr (by omega) rfl (pa_cons (pv 1) pa_nil)))) (pss_one ps_never) pss_nil)
  (pss_cons (ps_if (pt_cmp (pc_din (hu1 hr) (pv 1) (pe_fld (pv 0) rfl)) rfl) (pss_one ps_never) pss_nil)
  (pss_cons (ps_for PassesOwn.never rfl (pi_tup (pe_tup (pa_cons (pv 2) (pa_cons (pv 3) pa_nil)))) (pg_name (i := 4) sc_Net_lane.nd rfl (Or.inl rfl)) (pss_one (ps_if (pt_cmpR op_notIn_seq (pv 4) (pe_fld (pv 0) rfl) (by rfl)) (pss_one ps_never) pss_nil)))
  (pss_one (ps_dput (hu1 hr) (pe_fld (pv 0) rfl) (pv 1) (pe_tup (pa_cons (pv 2) (pa_cons (pv 3) pa_nil))) rfl))))), ?_⟩
    walk_at "r"
    refine ⟨e.1, rfl, h9, fun H1 s1 => ?_⟩
    walk_at "r"
    refine r_field cN (by decide) (s1 _ _ h1) h3 ?_
    refine ⟨d, _, rfl, DGet.k (k := nk e.1) (s1 _ _ h5), ?_⟩
    rw [valV_none.mpr h6]
    walk_at "r"
    refine r_no rfl ?_
    walk_at "r"
    refine h_tup rfl fun q H2 s2 hq _ => ?_
    have s2 := s1.trans s2
    walk_at "r"
    refine ⟨q, rfl, ⟨_, .inl (.inl hq)⟩, ?_⟩
    refine for_it (walk_tup (xs := [V.str e.2.1, V.str e.2.2])) (fun i σ H' => ∃ y, H' = H2 ∧ σ = [some (.ref a), some (.str e.1), some (.str e.2.1), some (.str e.2.2), y]) ⟨_, rfl, rfl⟩ (fun i σ H' _ ⟨_, h, _⟩ => .inl (.inl (h ▸ hq))) ?_ ?_
    · rintro i v σ H2' H2 hi ⟨y, rfl, rfl⟩ ⟨rfl, hx⟩
      have hv : ∃ z, v = .str z ∧ z ∈ posts := by
        match i, hx with
        | 0, hx => exact ⟨_, (Option.some.inj hx).symm, h7⟩
        | 1, hx => exact ⟨_, (Option.some.inj hx).symm, h8⟩
      obtain ⟨z, rfl, hz⟩ := hv
      walk_at "r"
      refine r_field cN (by decide) (s2 _ _ h1) h2 ?_
      refine r_ninS (ks := posts) (.inl (.inl (.inl (s2 _ _ h4)))) ?_
      walk_at "r"
      refine r_no (by rw [decide_eq_true hz]; rfl) ?_
      walk_at "r"
      exact ⟨_, rfl, rfl⟩
    · rintro σ H3 ⟨y, rfl, rfl⟩
      walk_at "r"
      refine h_tup rfl fun t H4 s4 ht ht0 => ?_
      have s4 := s2.trans s4
      walk_at "r"
      refine r_field cN (by decide) (s4 _ _ h1) h3 ?_
      walk_at "r"
      refine ⟨d, _, rfl, DPut.k (k := nk e.1) (s4 _ _ h5) (small_lt (by omega)), ?_⟩
      rw [putK_new h6]
      walk_at "r"
      exact k t H4 s4 (free_of s2 ht0) ht
abbrev st__law_built : Stmt := topS 78
abbrev N__law_built : List Str := ["_law_parts", "_law_net", "_law_post", "_law_lane", "_law_start", "_law_end"]
theorem sc__law_built : FnScope N__law_built ["_law_parts"] (defScope st__law_built) := ⟨rfl, rfl, rfl, by decide +kernel, rfl, by decide +kernel, by decide +kernel⟩
theorem ok__law_built (T : Top K mg) (cN : CF K CN netF) {et : Addr} (hes : ∀ H, SqT K H et []) (F : Dn K mg "_law_built" st__law_built) (c_Net : C8.Mak P w K mg base 1 "Net" CN (spNInit K CN) [.ref et, .non]) (c_post : C8.Met P w K mg base 2 CN "post" (spPost CN) []) (c_lane : C8.Met P w K mg base 2 CN "lane" (spLane CN) []) : Cal P w K mg base 3 "_law_built" (spBuilt CN) := by
  refine F.cal sc__law_built (fun vs H Q E h => ?_) (fun _ _ _ _ _ _ us hl => match us, hl with | [_], _ => rfl) (fun f cdv A outer s H vs Q E hr h => ?_)
  · obtain ⟨q, G, posts, lanes, rfl, _⟩ := h
    rfl
  · obtain ⟨q, G, posts, lanes, rfl, sg, hparts, hnet, k⟩ := h
    obtain ⟨pa, pb, rows, hq, hP, hb, hrows⟩ := hparts.ex
    have hp5 := hnet.p5
    have h8 := hnet.l8
    refine ⟨_, (pss_cons (ps_set (i := 1) sc__law_built.nd rfl (Or.inl rfl) (pe_mk0 c_Net hr (by omega) rfl))
  (pss_cons (ps_for PassesOwn.never rfl (pi_list (pe_ix ix_list (pv 0) pe_int (fun _ _ => rfl))) (pg_name (i := 2) sc__law_built.nd rfl (Or.inl rfl)) (pss_one (ps_expr (C8.pe_mt c_post hr (by omega) (pv 1) (pa_cons (pv 2) pa_nil)))))
  (pss_cons (ps_for PassesOwn.never rfl (pi_list (pe_ix ix_list (pv 0) pe_int (fun _ _ => rfl))) (pg_tup rfl (pgs_cons (pg_name (i := 3) sc__law_built.nd rfl (Or.inl rfl)) (pgs_cons (pg_name (i := 4) sc__law_built.nd rfl (Or.inl rfl)) (pgs_cons (pg_name (i := 5) sc__law_built.nd rfl (Or.inl rfl)) pgs_nil)))) (pss_one (ps_expr (C8.pe_mt c_lane hr (by omega) (pv 1) (pa_cons (pv 3) (pa_cons (pv 4) (pa_cons (pv 5) pa_nil)))))))
  (pss_one (ps_ret (pv 1)))))), ?_⟩
    walk_at "r"
    refine r_make0 sg fun x dx H2 s2 hx hxG hx2 => ⟨x, dx, et, .non, [], [], rfl, hx2, .inr (hes _), .inl ⟨rfl, rfl⟩, ⟨List.nodup_nil, Nat.zero_le _⟩, fun H3 fs o d hx3 bk hon nd' od ho3 hd3 a1 a2 a3 => ⟨rfl, ?_⟩⟩
    have s3 : Same H H3 := fun r u e => bk r u (fun z => by rw [z, hx] at e; cases e) (s2 _ _ e)
    have hH3o := free_of s2 hon
    have hH3d := free_of s2 nd'
    have hxo : x ≠ o := fun z => by rw [← z, hx2] at hon; cases hon
    have hxd : x ≠ d := fun z => by rw [← z, hx2] at nd'; cases nd'
    have hoG := free_of sg hH3o
    have hdG := free_of sg hH3d
    walk_at "r"
    refine r_ixL (j := 0) (s3 _ _ (sg _ _ hq)) rfl ?_
    refine ⟨pa, rfl, ⟨_, .inl (.inl (s3 _ _ (sg _ _ hP)))⟩, ?_⟩
    refine for_it (walk_list (xs := posts.map V.str)) (fun i σ H' => ∃ y2 y3 y4 y5 : Option V, Same H H' ∧ H' x = some (.ins CN dx fs) ∧ StrL H' o (posts.take i) ∧ H' d = some (.dK []) ∧ σ = [some (.ref q), some (.ref x), y2, y3, y4, y5])
      ⟨_, _, _, _, s3, hx3, ho3, hd3, rfl⟩ (fun i σ H' _ ⟨_, _, _, _, s, _⟩ => .inl (.inl (s _ _ (sg _ _ hP)))) ?_ ?_
    · clear s3 hx3 ho3 hd3
      rintro i v σ H4' H4 hi ⟨y2, y3, y4, y5, s4, hx4, ho4, hd4, rfl⟩ ⟨rfl, hv⟩
      rw [List.getElem?_map] at hv
      obtain ⟨z, hz, rfl⟩ := Option.map_eq_some_iff.mp hv
      have hnz : z ∉ posts.take i := fun hm => by
        have h2 := hnet.pn.nd
        rw [← List.take_append_drop i posts, List.nodup_append] at h2
        have h3 : z ∈ posts.drop i := List.mem_of_getElem? (i := 0) (by rw [List.getElem?_drop]; exact hz)
        exact h2.2.2 z hm z h3 rfl
      walk_at "r"
      refine ⟨x, dx, fs, rfl, hx4, a3 _ (by decide), ?_⟩
      walk_at "r"
      refine ⟨x, dx, o, fs, posts.take i, z, rfl, hx4, a1, ho4, hnz, hnet.pn.nm z (List.mem_of_getElem? hz), by rw [List.length_take]; omega, fun H5 s5 => ?_⟩
      walk_at "r"
      refine ⟨_, _, _, _, (s4.trans s5).upd_mut hH3o, by rw [upd_ne hxo]; exact s5 _ _ hx4, ?_, by rw [upd_ne (Ne.symm od)]; exact s5 _ _ hd4, rfl⟩
      show upd _ _ _ _ = _
      rw [upd_same, take_snoc hz, List.map_append]
      rfl
    · clear s3 hx3 ho3 hd3
      rintro σ H4 ⟨y2, y3, y4, y5, s4, hx4, ho4, hd4, rfl⟩
      rw [List.length_map, List.take_length] at ho4
      walk_at "r"
      refine r_ixL (j := 1) (s4 _ _ (sg _ _ hq)) rfl ?_
      refine ⟨pb, rfl, ⟨_, .inl (.inl (s4 _ _ (sg _ _ hb)))⟩, ?_⟩
      refine for_it (walk_list (xs := rows)) (fun i σ H' => ∃ (G' : Hp) (kvs : List (Key × V)) (y2 y3 y4 y5 : Option V), Grow no G H G' H' ∧ G' x = none ∧ G' o = none ∧ G' d = none ∧ H' x = some (.ins CN dx fs) ∧ StrL H' o posts ∧ H' d = some (.dK kvs) ∧ Seq2 (EndV G') kvs (lanes.take i) ∧ σ = [some (.ref q), some (.ref x), y2, y3, y4, y5])
        ⟨G, [], _, _, _, _, (Grow.refl sg).heap s4, hxG, hoG, hdG, hx4, ho4, hd4, .nil, rfl⟩ (fun i σ H' _ ⟨_, _, _, _, _, _, g, _⟩ => .inl (.inl (g.at (g.gg _ _ hb)))) ?_ ?_
      · clear s4 hx4 ho4 hd4
        rintro i v σ H5' H5 hi ⟨G5, kvs, y2, y3, y4, y5, g, hxG, hoG, hdG, hx5, ho5, hd5, hk, rfl⟩ ⟨rfl, hv⟩
        obtain ⟨e, he, t, rfl, ht⟩ := hrows.at hv
        have hem := List.mem_of_getElem? he
        have hkl : kvs.length ≤ 8 := by rw [hk.1, List.length_take]; omega
        have hkeys : kvs.map (·.1) = ((lanes.take i).map (·.1)).map nk := by rw [endv_keys hk, List.map_map]; rfl
        have hnz : nk e.1 ∉ kvs.map (·.1) := by
          rw [hkeys, nk_mem, List.map_take]
          intro hm
          have h2 := hnet.ln.nd
          rw [← List.take_append_drop i (lanes.map (·.1)), List.nodup_append] at h2
          have h3 : e.1 ∈ (lanes.map (·.1)).drop i := List.mem_of_getElem? (i := 0) (by rw [List.getElem?_drop, List.getElem?_map]; show Option.map _ lanes[i]? = _; rw [he]; rfl)
          exact h2.2.2 _ hm _ h3 rfl
        refine r_gtup (g.at (g.gg _ _ ht)) rfl ?_
        walk_at "r"
        refine ⟨x, dx, fs, rfl, hx5, a3 _ (by decide), ?_⟩
        walk_at "r"
        refine ⟨x, dx, o, d, fs, posts, kvs, e, rfl, hx5, a1, a2, ho5, hd5, hnz, (hnet.ends e hem).1, (hnet.ends e hem).2, hnet.ln.nm _ (List.mem_map.mpr ⟨e, hem, rfl⟩), by omega, fun t2 H6 s6 ht0 ht2 => ?_⟩
        have e6 := ((Grow.refl g.gh (m := no)).heap s6).tell ht2 ht0
        have ht2G : upd G5 t2 (.tup [.str e.2.1, .str e.2.2]) t2 = some (.tup [.str e.2.1, .str e.2.2]) := upd_same
        revert e6 ht2G
        generalize upd G5 t2 (.tup [.str e.2.1, .str e.2.2]) = G6
        intro e6 ht2G
        have g := g.trans e6
        have hxG := e6.new _ hxG (by rw [hx5]; intro z; cases z)
        have hoG := e6.new _ hoG (by rw [show H5 o = _ from ho5]; intro z; cases z)
        have hdG := e6.new _ hdG (by rw [hd5]; intro z; cases z)
        walk_at "r"
        refine ⟨G6, _, _, _, _, _, g.mut hdG (.inl hH3d), hxG, hoG, hdG, by rw [upd_ne hxd]; exact s6 _ _ hx5, ?_, upd_same, ?_, rfl⟩
        · show upd _ _ _ _ = _
          rw [upd_ne od]
          exact s6 _ _ ho5
        · rw [take_snoc he]
          exact (hk.mono fun _ _ => EndV.mono e6.gg).snoc ⟨rfl, t2, rfl, ht2G⟩
      · clear s4 hx4 ho4 hd4
        rintro σ H5 ⟨G5, kvs, y2, y3, y4, y5, g, hxG, hoG, hdG, hx5, ho5, hd5, hk, rfl⟩
        rw [← hrows.1.symm, List.take_length] at hk
        walk_at "r"
        have g3 := ((g.tell hx5 hx).tell ho5 hH3o).tell hd5 hH3d
        refine k x _ H5 g3 ⟨dx, fs, o, d, kvs, ?_, a1, a2, a3, ?_, upd_same, hk.mono fun _ _ => EndV.mono fun r u e => ?_⟩
        · rw [upd_ne hxd, upd_ne hxo, upd_same]
        · show upd _ _ _ _ = _
          rw [upd_ne od, upd_same]
        · rw [upd_ne (fun z => by rw [z, hdG] at e; cases e), upd_ne (fun z => by rw [z, hoG] at e; cases e), upd_ne (fun z => by rw [z, hxG] at e; cases e)]
          exact e
end
end K48
/-! ## KD27 -/
set_option maxHeartbeats 4000000
namespace K48
open PySem L2
local macro_rules | `(tactic| walk_at "r1") => `(tactic| first
  | with_reducible refine r_seq ?_ | with_reducible refine r_asg ?_ | with_reducible refine r_ret ?_ | with_reducible refine r_drop ?_ | with_reducible refine r_if ?_ | with_reducible refine r_next ?_
  | with_reducible refine r_name ?_ | with_reducible refine r_c ?_ | ((with_reducible show tVar _ _ _ _); refine r_var rfl ?_) | with_reducible refine r_op ?_ | with_reducible refine r_un ?_
  | with_reducible refine r_i0 ?_ | with_reducible refine r_test ?_ | with_reducible refine r_tB ?_ | with_reducible refine r_bl ?_ | with_reducible refine r_and ?_ | with_reducible refine r_or ?_
  | with_reducible refine r_not ?_ | with_reducible refine r_ifE ?_ | with_reducible refine r_cons ?_ | with_reducible refine r_nil ?_ | with_reducible refine r_cb ?_ | with_reducible refine r_call ?_
  | with_reducible refine r_lstG ?_ | with_reducible refine r_tupG ?_ | with_reducible refine r_sl ?_ | with_reducible refine r_noP ?_ | with_reducible refine r_part ?_ | with_reducible refine r_exI ?_
  | with_reducible refine r_tr ?_ | with_reducible refine r_fa ?_ | with_reducible refine r_for ?_ | with_reducible refine r_iList ?_ | with_reducible refine r_iTup ?_ | with_reducible refine r_iStr ?_
  | with_reducible refine r_iR1 ?_ | with_reducible refine r_iR2 ?_ | with_reducible refine r_lc ?_ | with_reducible refine r_nt ?_ | with_reducible refine r_nf ?_ | with_reducible refine r_orV ?_ | with_reducible refine r_andV ?_ | with_reducible refine r_yesT ?_ | with_reducible refine r_gsub ?_ | with_reducible refine r_gcons ?_ | with_reducible refine r_gnil ?_ | with_reducible refine r_bm ?_ | with_reducible refine r_bm0 ?_
  | with_reducible refine r_fldG ?_ | with_reducible refine r_sfldG ?_ | with_reducible refine r_meth ?_ | with_reducible refine r_make ?_ | with_reducible refine r_dget ?_ | with_reducible refine r_din ?_ | with_reducible refine r_dnin ?_ | with_reducible refine r_dput ?_
  | with_reducible refine r_dgetN ?_ | with_reducible refine r_dinN ?_ | with_reducible refine r_dninN ?_ | with_reducible refine r_dputN ?_ | ((with_reducible show tAug _ _ _ _ _ _); refine r_aug rfl ?_) | with_reducible refine r_par ?_ | with_reducible refine r_neg ?_ | with_reducible refine r_iEnum ?_ | with_reducible refine r_iZip ?_ | with_reducible refine r_iZipA ?_)
local macro_rules | `(tactic| walk_at "r") => `(tactic| repeat walk_at "r1")

abbrev courF : List Str := ["base", "start", "ends"]
structure CourseAt (CC CN : Addr) (G : Hp) (c : Addr) (posts : List Str) (lanes : List (Lane Str)) (start : Str) (ends : List Str) : Prop where
  ex : ∃ dx fs b t, G c = some (.ins CC dx fs) ∧ fld fs "base" = some (.ref b) ∧ fld fs "start" = some (.str start) ∧ fld fs "ends" = some (.ref t) ∧ NetAt CN G b posts lanes ∧ StrT G t (posts.filter fun z => decide (z ∈ ends))
theorem CourseAt.mono {CC CN : Addr} {G G' : Hp} (s : Same G G') {c : Addr} {posts : List Str} {lanes : List (Lane Str)} {start : Str} {ends : List Str} (h : CourseAt CC CN G c posts lanes start ends) : CourseAt CC CN G' c posts lanes start ends := by
  obtain ⟨dx, fs, b, t, h1, h2, h3, h4, h5, h6⟩ := h.ex
  exact ⟨dx, fs, b, t, s _ _ h1, h2, h3, h4, h5.mono s, s _ _ h6⟩
def spCInit (CC CN : Addr) : Sp := fun vs H Q _ => ∃ (x dx a e : Addr) (start : Str) (G H0 : Hp) (posts ends : List Str) (lanes : List (Lane Str)), vs = [.ref x, .ref a, .str start, .ref e] ∧ Same G H0 ∧ Same H0 H ∧ H0 x = none ∧ H x = some (.ins CC dx []) ∧ NetAt CN G a posts lanes ∧ NetD posts lanes ∧ StrL G e ends ∧ start ∈ posts ∧ (∀ z ∈ ends, z ∈ posts) ∧ ends.length ≤ 1000 ∧
  ∀ (G' H' : Hp), Grow no G H0 G' H' → CourseAt CC CN G' x posts lanes start ends → Q .non H'
section
variable {P : Program} {w : World} {K : PySem.W.Frag} {mg : Str → Option Value} {base : Heap} {CC CN : Addr}
def propQ (C : Addr) (sp : Sp) (dvs : List V) (Q : VK) (E : XK) (x : V) (H1 : Hp) : Prop := ∃ a dx fs, x = .ref a ∧ H1 a = some (.ins C dx fs) ∧ sp (.ref a :: dvs) H1 Q E
theorem r_prop {C : Addr} {sp : Sp} {dvs : List V} {E : XK} {ta : TE} {σ : St} {H : Hp} {Q : VK} (k : ta σ H (propQ C sp dvs Q E)) : tProp C sp dvs E ta σ H Q := k
abbrev st_Course_init : Stmt := inClass (topS 64) 0
abbrev N_Course_init : List Str := ["self", "net", "start", "ends", "missing", "post"]
theorem sc_Course_init : FnScope N_Course_init ["self", "net", "start", "ends"] (defScope st_Course_init) := ⟨rfl, rfl, rfl, by decide +kernel, rfl, by decide +kernel, by decide +kernel⟩
theorem ok_Course_init (T : Top K mg) (cN : CF K CN netF) (cC : CF K CC courF) (F : In K mg "Course" CC "Course.__init__" st_Course_init) (c_first_missing : Cal P w K mg base 1 "first_missing" (spFirst K)) (c_posts : Prp P w K mg base 1 CN "posts" (spNPosts CN)) (c_copy : C8.Met P w K mg base 3 CN "copy" (spNCopy CN id) []) : C8.Mak P w K mg base 4 "Course" CC (spCInit CC CN) [] := by
  refine F.mak sc_Course_init (fun vs H Q E h => ?_) (fun _ _ _ _ _ _ us hl => match us, hl with | [_, _, _, _], _ => rfl) (fun f cdv A outer s H vs Q E hr h => ?_)
  · obtain ⟨x, dx, a, e, start, G, H0, posts, ends, lanes, rfl, _⟩ := h
    rfl
  · obtain ⟨x, dx, a, e, start, G, H0, posts, ends, lanes, rfl, sg, s0, hx0, hx, hn, hnet, he, hst, hen, hel, k⟩ := h
    obtain ⟨dn, fn, o, d, kvs, hna, _, _, hnm, _⟩ := hn.ex
    have hp5 := hnet.p5
    have hxG := free_of sg hx0
    have g := (Grow.refl sg (m := no)).heap s0
    refine ⟨_, (pss_cons (ps_set (i := 4) sc_Course_init.nd rfl (Or.inl rfl) (C8.pe_c c_first_missing hr (by omega) rfl (pa_cons (pe_op op_cat (pe_lst (pa_cons (pv 2) pa_nil)) (pe_callTy (call_list_of : CallR _ _ (rListQ K)) rfl T.b_list (by decide +kernel) (pa_cons (pv 3) pa_nil))) (pa_cons (pe_pr c_posts hr (by omega) (pv 1)) pa_nil))))
  (pss_cons (ps_if (pt_cmpR op_notN (pv 4) pe_non (nomark _)) (pss_one ps_never) pss_nil)
  (pss_cons (ps_fld (pv 0) (C8.pe_mt0 c_copy hr (by omega) (pv 1)) rfl)
  (pss_cons (ps_fld (pv 0) (pv 2) rfl)
  (pss_one (ps_fld (pv 0) (pe_callTy (call_tuple_of : CallR _ _ (rTupQ K)) rfl T.b_tuple (by decide +kernel) (pa_cons (pe_lc (own := [("post", 5)]) (g := (gName 5)) rfl sc_Course_init.nd (pi_tup (pe_pr c_posts hr (by omega) (pv 1))) (blkOk_by (N := N_Course_init) (sc := defScope st_Course_init) (by decide +kernel)) (fun _ _ _ _ _ => (pg_name (i := 5) sc_Course_init.nd rfl (Or.inl rfl))) (fun _ _ _ _ _ => (pts_one (pt_cmpR (op_in_seq : OpR _ _ (rIn K false)) (pv 5) (pv 3) (by rfl)))) (fun _ _ _ _ _ => (pv 5))) pa_nil)) rfl)))))), ?_⟩
    walk_at "r"
    refine e_lst g.gh rfl fun l1 G1 H1 e1 hl1 _ => ?_
    have g := g.trans e1
    have hxG := e1.new _ hxG (by rw [hx]; intro z; cases z)
    have hx := e1.same _ _ hx
    walk_at "r"
    refine e_listQ g.gh (g.at (g.gg _ _ he)) fun l2 G2 H2 e2 hl2 _ => ?_
    have g := g.trans e2
    have hxG := e2.new _ hxG (by rw [hx]; intro z; cases z)
    have hx := e2.same _ _ hx
    refine e_cat g.gh (e2.gg _ _ hl1) hl2 (by rw [List.length_map]; show 1 + _ ≤ _; omega) fun l3 G3 H3 e3 hl3 _ => ?_
    have g := g.trans e3
    have hxG := e3.new _ hxG (by rw [hx]; intro z; cases z)
    have hx := e3.same _ _ hx
    walk_at "r"
    refine r_prop ?_
    walk_at "r"
    refine ⟨a, dn, fn, rfl, g.at (g.gg _ _ hna), a, posts, lanes, rfl, (hn.mono g.gg).mono g.gh, fun q H4 s4 hq0 hq => ?_⟩
    have g := g.heap s4
    have hx := s4 _ _ hx
    walk_at "r"
    refine ⟨l3, q, start :: ends, posts, rfl, .inl (.inl (.inl (g.at hl3))), .inl (.inl hq), fun z hz => ?_, ?_⟩
    · rcases List.mem_cons.mp hz with rfl | hz
      · exact hst
      · exact hen z hz
    walk_at "r"
    refine ⟨rfl, ?_⟩
    walk_at "r"
    refine r_no rfl ?_
    walk_at "r"
    refine ⟨a, dn, fn, rfl, g.at (g.gg _ _ hna), hnm _ (by decide), ?_⟩
    walk_at "r"
    refine ⟨a, posts, lanes, G3, rfl, g.gh, hn.mono g.gg, hnet.ln.nd, hnet.l8, fun qn G5 H5 e5 hqn => ?_⟩
    have g := g.trans e5
    have hxG := e5.new _ hxG (by rw [hx]; intro z; cases z)
    have hx := e5.same _ _ hx
    walk_at "r"
    refine r_setf cC (by decide) hx rfl fun H6 hx n6 => ?_
    have g := g.chg hxG hx0 n6
    walk_at "r"
    refine r_setf cC (by decide) hx rfl fun H7 hx n7 => ?_
    have g := g.chg hxG hx0 n7
    walk_at "r"
    refine r_prop ?_
    walk_at "r"
    refine ⟨a, dn, fn, rfl, g.at (g.gg _ _ hna), a, posts, lanes, rfl, (hn.mono g.gg).mono g.gh, fun q2 H8 s8 hq20 hq2 => ?_⟩
    have g := g.heap s8
    have hx := s8 _ _ hx
    walk_at "r"
    refine ⟨q2, rfl, ⟨_, .inl (.inl hq2)⟩, fun Dl hD => ?_⟩
    let ff : Str → Bool := fun z => decide (z ∈ ends)
    refine lc_it (walk_tup (xs := posts.map V.str)) (fun j H' => Same H8 H' ∧ StrL H' Dl ((posts.take j).filter ff)) ⟨same_upd hD, upd_same⟩ (fun _ _ _ h => .inl (.inl (h.1 _ _ hq2))) ?_ ?_
    · rintro j v HA' HA hj ⟨s6, hDl⟩ ⟨rfl, hv⟩
      rw [List.getElem?_map] at hv
      obtain ⟨z, hz, rfl⟩ := Option.map_eq_some_iff.mp hv
      have hfl : ((posts.take j).filter ff).length ≤ 5 := Nat.le_trans (List.length_filter_le _ _) (by rw [List.length_take]; omega)
      walk_at "r"
      refine ⟨rfl, ?_⟩
      walk_at "r"
      refine r_inS (ks := ends) (.inl (.inl (.inl (s6 _ _ (g.at (g.gg _ _ he)))))) ?_
      walk_at "r"
      rw [take_snoc hz, List.filter_append]
      by_cases c : z ∈ ends
      · refine r_yes (decide_eq_true c) ?_
        walk_at "r"
        refine ⟨_, hDl, by rw [List.length_map]; exact small_lt (by omega), s6.upd_mut hD, ?_⟩
        show upd _ _ _ _ = _
        rw [upd_same, List.filter_cons_of_pos (p := ff) (decide_eq_true c), List.filter_nil, List.map_append]
        rfl
      · refine r_no (decide_eq_false c) ?_
        refine ⟨s6, ?_⟩
        rw [List.filter_cons_of_neg (p := ff) (by show ¬ decide (z ∈ ends) = true; rw [decide_eq_false c]; decide), List.filter_nil, List.append_nil]
        exact hDl
    · rintro HA ⟨s6, hDl⟩
      rw [List.length_map, List.take_length] at hDl
      have g := g.heap s6
      have hx := s6 _ _ hx
      walk_at "r"
      refine e_tupQ g.gh hDl fun q3 G9 H9 e9 hq3 _ => ?_
      have g := g.trans e9
      have hxG := e9.new _ hxG (by rw [hx]; intro z; cases z)
      have hx := e9.same _ _ hx
      walk_at "r"
      refine r_setf cC (by decide) hx rfl fun HB hx nB => ?_
      have g := (g.chg hxG hx0 nB).tell hx hx0
      have sG : ∀ o, Same G9 (upd G9 x o) := fun _ => same_upd hxG
      exact k _ _ g ⟨dx, _, qn, q3, upd_same, rfl, rfl, rfl, (hqn.mono e9.gg).mono (sG _), sG _ _ _ hq3⟩
end
end K48
/-! ## KD28 -/
set_option maxHeartbeats 4000000
namespace K48
open PySem L2
local macro_rules | `(tactic| walk_at "r1") => `(tactic| first
  | with_reducible refine r_seq ?_ | with_reducible refine r_asg ?_ | with_reducible refine r_ret ?_ | with_reducible refine r_drop ?_ | with_reducible refine r_if ?_ | with_reducible refine r_next ?_
  | with_reducible refine r_name ?_ | with_reducible refine r_c ?_ | ((with_reducible show tVar _ _ _ _); refine r_var rfl ?_) | with_reducible refine r_op ?_ | with_reducible refine r_un ?_
  | with_reducible refine r_i0 ?_ | with_reducible refine r_test ?_ | with_reducible refine r_tB ?_ | with_reducible refine r_bl ?_ | with_reducible refine r_and ?_ | with_reducible refine r_or ?_
  | with_reducible refine r_not ?_ | with_reducible refine r_ifE ?_ | with_reducible refine r_cons ?_ | with_reducible refine r_nil ?_ | with_reducible refine r_cb ?_ | with_reducible refine r_call ?_
  | with_reducible refine r_lstG ?_ | with_reducible refine r_tupG ?_ | with_reducible refine r_sl ?_ | with_reducible refine r_noP ?_ | with_reducible refine r_part ?_ | with_reducible refine r_exI ?_
  | with_reducible refine r_tr ?_ | with_reducible refine r_fa ?_ | with_reducible refine r_for ?_ | with_reducible refine r_iList ?_ | with_reducible refine r_iTup ?_ | with_reducible refine r_iStr ?_
  | with_reducible refine r_iR1 ?_ | with_reducible refine r_iR2 ?_ | with_reducible refine r_lc ?_ | with_reducible refine r_nt ?_ | with_reducible refine r_nf ?_ | with_reducible refine r_orV ?_ | with_reducible refine r_andV ?_ | with_reducible refine r_yesT ?_ | with_reducible refine r_gsub ?_ | with_reducible refine r_gcons ?_ | with_reducible refine r_gnil ?_ | with_reducible refine r_bm ?_ | with_reducible refine r_bm0 ?_
  | with_reducible refine r_fldG ?_ | with_reducible refine r_sfldG ?_ | with_reducible refine r_meth ?_ | with_reducible refine r_make ?_ | with_reducible refine r_dget ?_ | with_reducible refine r_din ?_ | with_reducible refine r_dnin ?_ | with_reducible refine r_dput ?_
  | with_reducible refine r_dgetN ?_ | with_reducible refine r_dinN ?_ | with_reducible refine r_dninN ?_ | with_reducible refine r_dputN ?_ | ((with_reducible show tAug _ _ _ _ _ _); refine r_aug rfl ?_) | with_reducible refine r_par ?_ | with_reducible refine r_neg ?_ | with_reducible refine r_iEnum ?_ | with_reducible refine r_iZip ?_ | with_reducible refine r_iZipA ?_)
local macro_rules | `(tactic| walk_at "r") => `(tactic| repeat walk_at "r1")

def spLanesOf (CC CN : Addr) : Sp := fun vs H Q _ => ∃ (c : Addr) (start : Str) (G : Hp) (posts ends : List Str) (lanes : List (Lane Str)), vs = [.ref c] ∧ Same G H ∧ CourseAt CC CN G c posts lanes start ends ∧ NetD posts lanes ∧ (∀ z ∈ ends, z ∈ posts) ∧
  ∀ (q : Addr) (rs : List Str) (G' H' : Hp), Grow no G H G' H' → StrT G' q rs → (∀ u, Used lanes start ends u → u.1 ∈ rs) → Q (.ref q) H'
def spKnown (K : PySem.W.Frag) (CC CN : Addr) : Sp := fun vs H Q _ => ∃ (c wl : Addr) (start : Str) (posts ends ws : List Str) (lanes : List (Lane Str)), vs = [.ref c, .ref wl] ∧ CourseAt CC CN H c posts lanes start ends ∧ NetD posts lanes ∧ (SqL K H wl (ws.map V.str) ∨ SqT K H wl (ws.map V.str)) ∧ (∀ z ∈ ws, z ∈ lanes.map (·.1)) ∧
  ∀ (H' : Hp), Same H H' → Q .non H'
def spCUsed (K : PySem.W.Frag) (CC CN : Addr) : Sp := fun vs H Q _ => ∃ (c wl : Addr) (start : Str) (G : Hp) (posts ends ws : List Str) (lanes : List (Lane Str)), vs = [.ref c, .ref wl] ∧ Same G H ∧ CourseAt CC CN G c posts lanes start ends ∧ NetD posts lanes ∧ (∀ z ∈ ends, z ∈ posts) ∧ (SqL K H wl (ws.map V.str) ∨ SqT K H wl (ws.map V.str)) ∧ (∀ z ∈ ws, ∃ u, Used lanes start ends u ∧ u.1 = z) ∧
  ∀ (H' : Hp), Same H H' → Q .non H'
section
variable {P : Program} {w : World} {K : PySem.W.Frag} {mg : Str → Option Value} {base : Heap} {CC CN : Addr}
abbrev st_lanes_of : Stmt := topS 66
abbrev N_lanes_of : List Str := ["course", "base", "ahead", "back", "lane"]
theorem sc_lanes_of : FnScope N_lanes_of ["course"] (defScope st_lanes_of) := ⟨rfl, rfl, rfl, by decide +kernel, rfl, by decide +kernel, by decide +kernel⟩
theorem ok_lanes_of (T : Top K mg) (cN : CF K CN netF) (cC : CF K CC courF) (F : Dn K mg "lanes_of" st_lanes_of) (c_lanes : Prp P w K mg base 1 CN "lanes" (spNLanes CN)) (c_reached_posts : Cal P w K mg base 1 "reached_posts" (spReach CN)) (c_posts_before : Cal P w K mg base 4 "posts_before" (spBefore CN)) (c_start_of : C8.Met P w K mg base 1 CN "start_of" (spNStart CN) []) (c_end_of : C8.Met P w K mg base 1 CN "end_of" (spNEnd CN) []) : Cal P w K mg base 5 "lanes_of" (spLanesOf CC CN) := by
  refine F.cal sc_lanes_of (fun vs H Q E h => ?_) (fun _ _ _ _ _ _ us hl => match us, hl with | [_], _ => rfl) (fun f cdv A outer s H vs Q E hr h => ?_)
  · obtain ⟨c, start, G, posts, ends, lanes, rfl, _⟩ := h
    rfl
  · obtain ⟨c, start, G, posts, ends, lanes, rfl, sg, hc, hnet, hen, k⟩ := h
    obtain ⟨dx, fs, b, t, h1, h2, h3, h4, hn, ht⟩ := hc.ex
    obtain ⟨dn, fn, o, d, kvs, hna, _, _, hnm, _⟩ := hn.ex
    have hp5 := hnet.p5
    have h8 := hnet.l8
    refine ⟨_, (pss_cons (ps_set (i := 1) sc_lanes_of.nd rfl (Or.inr rfl) (pe_fld (pv 0) rfl))
  (pss_cons (ps_set (i := 2) sc_lanes_of.nd rfl (Or.inr rfl) (C8.pe_c c_reached_posts hr (by omega) rfl (pa_cons (pv 1) (pa_cons (pe_fld (pv 0) rfl) pa_nil))))
  (pss_cons (ps_set (i := 3) sc_lanes_of.nd rfl (Or.inr rfl) (C8.pe_c c_posts_before hr (by omega) rfl (pa_cons (pv 1) (pa_cons (pe_fld (pv 0) rfl) pa_nil))))
  (pss_one (ps_ret (pe_callTy (call_tuple_of : CallR _ _ (rTupQ K)) rfl T.b_tuple (by decide +kernel) (pa_cons (pe_lc (own := [("lane", 4)]) (g := (gName 4)) rfl sc_lanes_of.nd (pi_tup (pe_pr c_lanes hr (by omega) (pv 1))) (blkOk_by (N := N_lanes_of) (sc := defScope st_lanes_of) (by decide +kernel)) (fun _ _ _ _ _ => (pg_name (i := 4) sc_lanes_of.nd rfl (Or.inl rfl))) (fun _ _ _ _ _ => (pts_one (PW.pt (pw_and (pt_cmpR (op_in_seq : OpR _ _ (rIn K false)) (C8.pe_mt c_start_of hr (by omega) (pv 1) (pa_cons (pv 4) pa_nil)) (pv 2) (by rfl)) (pw_and1 (pt_cmpR (op_in_seq : OpR _ _ (rIn K false)) (C8.pe_mt c_end_of hr (by omega) (pv 1) (pa_cons (pv 4) pa_nil)) (pv 3) (by rfl))))))) (fun _ _ _ _ _ => (pv 4))) pa_nil))))))), ?_⟩
    walk_at "r"
    refine r_field cC (by decide) (sg _ _ h1) h2 ?_
    walk_at "r"
    refine r_field cC (by decide) (sg _ _ h1) h3 ?_
    walk_at "r"
    refine ⟨b, start, posts, lanes, rfl, hn.mono sg, hnet.ln.nd, h8, hp5, fun qa ra H1 s1 hqa0 hqa ha har => ?_⟩
    have g := ((Grow.refl sg (m := no)).heap s1).tell hqa hqa0
    have hqaG : upd G qa (.tup (ra.map V.str)) qa = some (.tup (ra.map V.str)) := upd_same
    revert g hqaG
    generalize upd G qa (.tup (ra.map V.str)) = G1
    intro g hqaG
    walk_at "r"
    refine r_field cC (by decide) (g.at (g.gg _ _ h1)) h4 ?_
    walk_at "r"
    refine ⟨b, t, G1, posts, _, lanes, rfl, g.gh, hn.mono g.gg, hnet.ln.nd, h8, hp5, g.gg _ _ ht, Nat.le_trans (List.length_filter_le _ _) hp5, fun qb rb G2 H2 e2 hqb hb => ?_⟩
    have g := g.trans e2
    have hqaG := e2.gg _ _ hqaG
    walk_at "r"
    refine r_prop ?_
    walk_at "r"
    refine ⟨b, dn, fn, rfl, g.at (g.gg _ _ hna), b, posts, lanes, rfl, (hn.mono g.gg).mono g.gh, h8, fun qc H3 s3 _ hqc => ?_⟩
    have g := g.heap s3
    walk_at "r"
    refine ⟨qc, rfl, ⟨_, .inl (.inl hqc)⟩, fun Dl hD => ?_⟩
    let ff : Lane Str → Bool := fun e => decide (e.2.1 ∈ ra) && decide (e.2.2 ∈ rb)
    refine lc_it (walk_tup (xs := (lanes.map (·.1)).map V.str)) (fun j H' => Same H3 H' ∧ StrL H' Dl (((lanes.take j).filter ff).map (·.1))) ⟨same_upd hD, upd_same⟩ (fun _ _ _ h => .inl (.inl (h.1 _ _ hqc))) ?_ ?_
    · rintro j v HA' HA hj ⟨s6, hDl⟩ ⟨rfl, hv⟩
      rw [List.getElem?_map, List.getElem?_map] at hv
      obtain ⟨z, hz, rfl⟩ := Option.map_eq_some_iff.mp hv
      obtain ⟨e, he, rfl⟩ := Option.map_eq_some_iff.mp hz
      have hem := List.mem_of_getElem? he
      have hfl : ((lanes.take j).filter ff).length ≤ 8 := Nat.le_trans (List.length_filter_le _ _) (by rw [List.length_take]; omega)
      have hnA : NetAt CN HA b posts lanes := ((hn.mono g.gg).mono g.gh).mono s6
      have hbA : HA b = some (.ins CN dn fn) := s6 _ _ (g.at (g.gg _ _ hna))
      walk_at "r"
      refine ⟨rfl, ?_⟩
      walk_at "r"
      refine ⟨b, dn, fn, rfl, hbA, hnm _ (by decide), ?_⟩
      walk_at "r"
      refine ⟨b, posts, lanes, e, rfl, hnA, hnet.ln.nd, hem, ?_⟩
      walk_at "r"
      refine r_inS (ks := ra) (.inr (.inl (.inl (s6 _ _ (g.at hqaG))))) ?_
      walk_at "r"
      rw [take_snoc he, List.filter_append]
      by_cases c1 : e.2.1 ∈ ra
      · refine r_yes (decide_eq_true c1) ?_
        walk_at "r"
        refine ⟨b, dn, fn, rfl, hbA, hnm _ (by decide), ?_⟩
        walk_at "r"
        refine ⟨b, posts, lanes, e, rfl, hnA, hnet.ln.nd, hem, ?_⟩
        walk_at "r"
        refine r_inS (ks := rb) (.inl (.inl (.inl (s6 _ _ (g.at hqb))))) ?_
        walk_at "r"
        by_cases c2 : e.2.2 ∈ rb
        · refine r_yes (decide_eq_true c2) ?_
          walk_at "r"
          refine ⟨_, hDl, by rw [List.length_map, List.length_map]; exact small_lt (by omega), s6.upd_mut hD, ?_⟩
          show upd _ _ _ _ = _
          rw [upd_same, List.filter_cons_of_pos (p := ff) (by show (decide _ && decide _) = true; rw [decide_eq_true c1, decide_eq_true c2]; rfl), List.filter_nil, List.map_append, List.map_append]
          rfl
        · refine r_no (decide_eq_false c2) ?_
          refine ⟨s6, ?_⟩
          rw [List.filter_cons_of_neg (p := ff) (by show ¬ (decide _ && decide _) = true; rw [decide_eq_true c1, decide_eq_false c2]; decide), List.filter_nil, List.append_nil]
          exact hDl
      · refine r_no (decide_eq_false c1) ?_
        walk_at "r"
        refine ⟨s6, ?_⟩
        rw [List.filter_cons_of_neg (p := ff) (by show ¬ (decide _ && decide _) = true; rw [decide_eq_false c1, Bool.false_and]; decide), List.filter_nil, List.append_nil]
        exact hDl
    · rintro HA ⟨s6, hDl⟩
      rw [List.length_map, List.length_map, List.take_length] at hDl
      have g := g.heap s6
      walk_at "r"
      refine e_tupQ g.gh hDl fun q3 G9 H9 e9 hq3 _ => ?_
      refine k q3 _ G9 H9 (g.trans e9) hq3 fun u hu => ?_
      obtain ⟨hm, hc1, q, hq, hc2⟩ := hu
      refine List.mem_map.mpr ⟨u, List.mem_filter.mpr ⟨hm, ?_⟩, rfl⟩
      have a1 : u.2.1 ∈ ra := (ha _).mpr ⟨(hnet.ends u hm).1, hc1⟩
      have a2 : u.2.2 ∈ rb := (hb _).mpr ⟨(hnet.ends u hm).2, q, List.mem_filter.mpr ⟨hen q hq, decide_eq_true hq⟩, hc2⟩
      show (decide _ && decide _) = true
      rw [decide_eq_true a1, decide_eq_true a2]
      rfl
abbrev st_check_known : Stmt := topS 67
abbrev N_check_known : List Str := ["course", "lanes", "missing"]
theorem sc_check_known : FnScope N_check_known ["course", "lanes"] (defScope st_check_known) := ⟨rfl, rfl, rfl, by decide +kernel, rfl, by decide +kernel, by decide +kernel⟩
theorem ok_check_known (T : Top K mg) (cN : CF K CN netF) (cC : CF K CC courF) (F : Dn K mg "check_known" st_check_known) (c_first_missing : Cal P w K mg base 1 "first_missing" (spFirst K)) (c_lanes : Prp P w K mg base 1 CN "lanes" (spNLanes CN)) : Cal P w K mg base 3 "check_known" (spKnown K CC CN) := by
  refine F.cal sc_check_known (fun vs H Q E h => ?_) (fun _ _ _ _ _ _ us hl => match us, hl with | [_, _], _ => rfl) (fun f cdv A outer s H vs Q E hr h => ?_)
  · obtain ⟨c, wl, start, posts, ends, ws, lanes, rfl, _⟩ := h
    rfl
  · obtain ⟨c, wl, start, posts, ends, ws, lanes, rfl, hc, hnet, hw, hin, k⟩ := h
    obtain ⟨dx, fs, b, t, h1, h2, h3, h4, hn, ht⟩ := hc.ex
    obtain ⟨dn, fn, o, d, kvs, hna, _, _, hnm, _⟩ := hn.ex
    refine ⟨_, (pss_cons (ps_set (i := 2) sc_check_known.nd rfl (Or.inl rfl) (C8.pe_c c_first_missing hr (by omega) rfl (pa_cons (pv 1) (pa_cons (pe_pr c_lanes hr (by omega) (pe_fld (pv 0) rfl)) pa_nil))))
  (pss_one (ps_if (pt_cmpR op_notN (pv 2) pe_non (nomark _)) (pss_one ps_never) pss_nil))), ?_⟩
    walk_at "r"
    refine r_prop ?_
    walk_at "r"
    refine r_field cC (by decide) h1 h2 ?_
    refine ⟨b, dn, fn, rfl, hna, b, posts, lanes, rfl, hn, hnet.l8, fun q H1 s1 _ hq => ?_⟩
    walk_at "r"
    refine ⟨wl, q, ws, _, rfl, hw.imp s1.seq s1.seqT, .inl (.inl hq), hin, ?_⟩
    walk_at "r"
    refine ⟨rfl, ?_⟩
    walk_at "r"
    refine r_no rfl ?_
    walk_at "r"
    exact k H1 s1
abbrev st_check_used : Stmt := topS 68
abbrev N_check_used : List Str := ["course", "lanes", "missing"]
theorem sc_check_used : FnScope N_check_used ["course", "lanes"] (defScope st_check_used) := ⟨rfl, rfl, rfl, by decide +kernel, rfl, by decide +kernel, by decide +kernel⟩
theorem ok_check_used (T : Top K mg) (F : Dn K mg "check_used" st_check_used) (c_check_known : Cal P w K mg base 3 "check_known" (spKnown K CC CN)) (c_first_missing : Cal P w K mg base 1 "first_missing" (spFirst K)) (c_lanes_of : Cal P w K mg base 5 "lanes_of" (spLanesOf CC CN)) : Cal P w K mg base 6 "check_used" (spCUsed K CC CN) := by
  refine F.cal sc_check_used (fun vs H Q E h => ?_) (fun _ _ _ _ _ _ us hl => match us, hl with | [_, _], _ => rfl) (fun f cdv A outer s H vs Q E hr h => ?_)
  · obtain ⟨c, wl, start, G, posts, ends, ws, lanes, rfl, _⟩ := h
    rfl
  · obtain ⟨c, wl, start, G, posts, ends, ws, lanes, rfl, sg, hc, hnet, hen, hw, hin, k⟩ := h
    refine ⟨_, (pss_cons (ps_expr (C8.pe_c c_check_known hr (by omega) rfl (pa_cons (pv 0) (pa_cons (pv 1) pa_nil))))
  (pss_cons (ps_set (i := 2) sc_check_used.nd rfl (Or.inl rfl) (C8.pe_c c_first_missing hr (by omega) rfl (pa_cons (pv 1) (pa_cons (C8.pe_c c_lanes_of hr (by omega) rfl (pa_cons (pv 0) pa_nil)) pa_nil))))
  (pss_one (ps_if (pt_cmpR op_notN (pv 2) pe_non (nomark _)) (pss_one ps_never) pss_nil)))), ?_⟩
    walk_at "r"
    refine ⟨c, wl, start, posts, ends, ws, lanes, rfl, hc.mono sg, hnet, hw, fun z hz => ?_, fun H1 s1 => ?_⟩
    · obtain ⟨u, hu, rfl⟩ := hin z hz
      exact List.mem_map.mpr ⟨u, hu.1, rfl⟩
    walk_at "r"
    refine ⟨c, start, G, posts, ends, lanes, rfl, sg.trans s1, hc, hnet, hen, fun q rs G2 H2 e2 hq hu => ?_⟩
    have s2 := s1.trans e2.same
    walk_at "r"
    refine ⟨wl, q, ws, rs, rfl, hw.imp s2.seq s2.seqT, .inl (.inl (e2.at hq)), fun z hz => ?_, ?_⟩
    · obtain ⟨u, hu1, rfl⟩ := hin z hz
      exact hu u hu1
    walk_at "r"
    refine ⟨rfl, ?_⟩
    walk_at "r"
    refine r_no rfl ?_
    walk_at "r"
    exact k H2 s2
end
end K48
/-! ## KD29 -/
set_option maxHeartbeats 4000000
namespace K48
open PySem L2
local macro_rules | `(tactic| walk_at "r1") => `(tactic| first
  | with_reducible refine r_seq ?_ | with_reducible refine r_asg ?_ | with_reducible refine r_ret ?_ | with_reducible refine r_drop ?_ | with_reducible refine r_if ?_ | with_reducible refine r_next ?_
  | with_reducible refine r_name ?_ | with_reducible refine r_c ?_ | ((with_reducible show tVar _ _ _ _); refine r_var rfl ?_) | with_reducible refine r_op ?_ | with_reducible refine r_un ?_
  | with_reducible refine r_i0 ?_ | with_reducible refine r_test ?_ | with_reducible refine r_tB ?_ | with_reducible refine r_bl ?_ | with_reducible refine r_and ?_ | with_reducible refine r_or ?_
  | with_reducible refine r_not ?_ | with_reducible refine r_ifE ?_ | with_reducible refine r_cons ?_ | with_reducible refine r_nil ?_ | with_reducible refine r_cb ?_ | with_reducible refine r_call ?_
  | with_reducible refine r_lstG ?_ | with_reducible refine r_tupG ?_ | with_reducible refine r_sl ?_ | with_reducible refine r_noP ?_ | with_reducible refine r_part ?_ | with_reducible refine r_exI ?_
  | with_reducible refine r_tr ?_ | with_reducible refine r_fa ?_ | with_reducible refine r_for ?_ | with_reducible refine r_iList ?_ | with_reducible refine r_iTup ?_ | with_reducible refine r_iStr ?_
  | with_reducible refine r_iR1 ?_ | with_reducible refine r_iR2 ?_ | with_reducible refine r_lc ?_ | with_reducible refine r_nt ?_ | with_reducible refine r_nf ?_ | with_reducible refine r_orV ?_ | with_reducible refine r_andV ?_ | with_reducible refine r_yesT ?_ | with_reducible refine r_gsub ?_ | with_reducible refine r_gcons ?_ | with_reducible refine r_gnil ?_ | with_reducible refine r_bm ?_ | with_reducible refine r_bm0 ?_
  | with_reducible refine r_fldG ?_ | with_reducible refine r_sfldG ?_ | with_reducible refine r_meth ?_ | with_reducible refine r_make ?_ | with_reducible refine r_dget ?_ | with_reducible refine r_din ?_ | with_reducible refine r_dnin ?_ | with_reducible refine r_dput ?_
  | with_reducible refine r_dgetN ?_ | with_reducible refine r_dinN ?_ | with_reducible refine r_dninN ?_ | with_reducible refine r_dputN ?_ | ((with_reducible show tAug _ _ _ _ _ _); refine r_aug rfl ?_) | with_reducible refine r_par ?_ | with_reducible refine r_neg ?_ | with_reducible refine r_iEnum ?_ | with_reducible refine r_iZip ?_ | with_reducible refine r_iZipA ?_)
local macro_rules | `(tactic| walk_at "r") => `(tactic| repeat walk_at "r1")

/-- the search so far: the dict of runs, the queue -/
structure RunI (H0 G : Hp) (lanes : List (Lane Str)) (M : Mach Str) (wn start : Str) (kvs : List NEnt) (qs : List V) (ss : List (Stand Str)) : Prop where
  D : StandD G kvs ss
  Q : Seq2 (fun v s => ∃ a, v = .ref a ∧ StandAt G a s) qs ss
  W : Seq2 (fun (en : NEnt) s => ∃ l R, en.2.2 = .ref l ∧ StrL G l (R.map (·.1)) ∧ R.length + 1 ≤ ss.length ∧ H0 l = none ∧ Reached lanes M [wn] (start, [], []) s R) kvs ss
section
variable {H0 G G' : Hp} {lanes : List (Lane Str)} {M : Mach Str} {wn start : Str} {kvs : List NEnt} {qs : List V} {ss : List (Stand Str)} {s t : Stand Str}
theorem RunI.mono (h : Same G G') (x : RunI H0 G lanes M wn start kvs qs ss) : RunI H0 G' lanes M wn start kvs qs ss :=
  ⟨x.D.mono h, x.Q.mono fun _ _ ⟨a, e, ha⟩ => ⟨a, e, ha.mono h⟩, x.W.mono fun _ _ ⟨l, R, e, hl, hn, h0, hr⟩ => ⟨l, R, e, h _ _ hl, hn, h0, hr⟩⟩
theorem RunI.run (x : RunI H0 G lanes M wn start kvs qs ss) (hs : s ∈ ss) : ∃ l R, atN kvs (skey s) = some (.ref l) ∧ StrL G l (R.map (·.1)) ∧ R.length + 1 ≤ ss.length ∧ H0 l = none ∧ Reached lanes M [wn] (start, [], []) s R := by
  cases e : atN kvs (skey s) with
  | none => exact absurd (skey_mem.mpr hs) (by rw [← x.D.keys]; exact atN_none.mp e)
  | some v =>
    obtain ⟨b, hb⟩ := atN_mem e
    obtain ⟨i, hi⟩ := List.mem_iff_getElem?.mp hb
    obtain ⟨s', hs', hk, _⟩ := x.D.at hi
    obtain ⟨l, R, e1, h1, h2, h0, h3⟩ := x.W.2 i _ _ hi hs'
    rw [skey_inj hk]
    exact ⟨l, R, congrArg some e1, h1, h2, h0, h3⟩
theorem RunI.put (x : RunI H0 G lanes M wn start kvs qs ss) {a l : Addr} {e : Lane Str} {R : List (Lane Str)} (c : t ∉ ss) (ha : StandAt G a t) (hl : StrL G l ((R ++ [e]).map (·.1))) (hR : R.length + 1 ≤ ss.length) (hl0 : H0 l = none) (hr : Reached lanes M [wn] (start, [], []) s R) (he : e ∈ lanes) (hst : step M [wn] s e = some t) :
    RunI H0 G lanes M wn start (putN kvs (skey t) a (.ref l)) (qs ++ [.ref a]) (ss ++ [t]) := by
  have hn : atN kvs (skey t) = none := atN_none.mpr (by rw [x.D.keys, skey_mem]; exact c)
  refine ⟨(x.D.put c ha).1, x.Q.snoc ⟨a, rfl, ha⟩, ?_⟩
  rw [putN_new hn]
  refine (x.W.mono fun _ _ ⟨l, R, e, hl, hn, h0, hr⟩ => ⟨l, R, e, hl, by rw [List.length_append]; omega, h0, hr⟩).snoc ⟨l, R ++ [e], rfl, hl, ?_, hl0, hr.snoc he hst⟩
  rw [List.length_append, List.length_append]
  show R.length + 1 + 1 ≤ ss.length + 1
  omega
end
def spShort (CC CN CM : Addr) : Sp := fun vs H Q _ => ∃ (c wt a : Addr) (start w : Str) (G : Hp) (posts ends : List Str) (lanes : List (Lane Str)) (m : ML Str), vs = [.ref c, .ref wt, .ref a] ∧ Same G H ∧ CourseAt CC CN G c posts lanes start ends ∧ NetD posts lanes ∧ StrT G wt [w] ∧ MachP CM G a m ∧ m.atoms.length ≤ 5 ∧ start ∈ posts ∧ (∀ z ∈ ends, z ∈ posts) ∧
  ((¬ ∃ R, Avoid lanes m.mach start ends w R) → ∀ H', Same H H' → Q .non H') ∧ (∀ (l : Addr) (R : List (Lane Str)) (H' : Hp), Avoid lanes m.mach start ends w R → Same H H' → StrL H' l (R.map (·.1)) → H l = none → R.length ≤ 400 → Q (.ref l) H')
section
variable {P : Program} {w : World} {K : PySem.W.Frag} {mg : Str → Option Value} {base : Heap} {CC CN CM : Addr}
abbrev st_shortest_run : Stmt := topS 69
abbrev N_shortest_run : List Str := ["course", "wanted", "machine", "start", "runs", "queue", "at", "post", "places", "done", "lane", "later", "one", "more", "standing"]
theorem sc_shortest_run : FnScope N_shortest_run ["course", "wanted", "machine"] (defScope st_shortest_run) := ⟨rfl, rfl, rfl, by decide +kernel, rfl, by decide +kernel, by decide +kernel⟩
theorem ok_shortest_run (T : Top K mg) (cN : CF K CN netF) (cC : CF K CC courF) (cM : CF K CM machF) (F : Dn K mg "shortest_run" st_shortest_run) (c_out_of : C8.Met P w K mg base 1 CN "out_of" (spNOut CN) []) (c_end_of : C8.Met P w K mg base 1 CN "end_of" (spNEnd CN) []) (c_begun : C8.Met P w K mg base 2 CM "begun" (spPBegun CM) []) (c_is_done : C8.Met P w K mg base 1 CM "is_done" (spPDone CM) []) : Cal P w K mg base 3 "shortest_run" (spShort CC CN CM) := by
  refine F.cal sc_shortest_run (fun vs H Q E h => ?_) (fun _ _ _ _ _ _ us hl => match us, hl with | [_, _, _], _ => rfl) (fun f cdv A outer s H vs Q E hr h => ?_)
  · obtain ⟨c, wt, a, start, w, G, posts, ends, lanes, m, rfl, _⟩ := h
    rfl
  · obtain ⟨c, wt, a, start, wn, G, posts, ends, lanes, m, rfl, sg, hc, hnet, hw, hm, hm5, hst, hen, k1, k2⟩ := h
    obtain ⟨dx, fs, b, t, h1, h2, h3, h4, hn, ht⟩ := hc.ex
    obtain ⟨dn, fn, o, d, kvs0, hna, _, _, hnm, _⟩ := hn.ex
    obtain ⟨dm, fm, x1, f1, l1, d1, vs1, dkv, hma, _, _, _, _, hopt, hmm, _⟩ := hm.ex
    have h8 := hnet.l8
    have hp5 := hnet.p5
    have g0 := Grow.refl sg (m := no)
    refine ⟨_, (pss_cons (ps_set (i := 3) sc_shortest_run.nd rfl (Or.inl rfl) (pe_tup (pa_cons (pe_fld (pv 0) rfl) (pa_cons (pe_tup pa_nil) (pa_cons (pe_tup pa_nil) pa_nil)))))
  (pss_cons (ps_set (i := 4) sc_shortest_run.nd rfl (Or.inl rfl) (pe_disp1N hr.units (pv 3) (pe_lst pa_nil)))
  (pss_cons (ps_set (i := 5) sc_shortest_run.nd rfl (Or.inl rfl) (pe_lst (pa_cons (pv 3) pa_nil)))
  (pss_cons (ps_set (i := 6) sc_shortest_run.nd rfl (Or.inl rfl) pe_int)
  (pss_cons (ps_while PassesOwn.never (pt_cmpR op_lt (pv 6) (pe_callB (call_len_seq : CallR _ _ (rLenQ K)) rfl T.b_len (by decide +kernel) (pa_cons (pv 5) pa_nil)) (nomark _)) (pss_cons (ps_asg (pe_ix ix_list (pv 5) (pv 6) (fun _ _ => rfl)) (pg_tup rfl (pgs_cons (pg_name (i := 7) sc_shortest_run.nd rfl (Or.inl rfl)) (pgs_cons (pg_name (i := 8) sc_shortest_run.nd rfl (Or.inl rfl)) (pgs_cons (pg_name (i := 9) sc_shortest_run.nd rfl (Or.inr rfl)) pgs_nil)))))
  (pss_cons (ps_if (PW.pt (pw_and (pt_cmpR op_in_seq (pv 7) (pe_fld (pv 0) rfl) (by rfl)) (pw_and (pt_cmpR op_eq (pe_callB (call_len_seq : CallR _ _ (rLenQ K)) rfl T.b_len (by decide +kernel) (pa_cons (pv 9) pa_nil)) (pe_callB (call_len_seq : CallR _ _ (rLenQ K)) rfl T.b_len (by decide +kernel) (pa_cons (pv 1) pa_nil)) (nomark _)) (pw_and1 (pt_not (pt_val (pe_fld (pv 2) rfl))))))) (pss_one (ps_ret (pe_dgetN hr.units (pv 4) (pe_ix ix_list (pv 5) (pv 6) (fun _ _ => rfl)) (fun _ _ => rfl)))) pss_nil)
  (pss_cons (ps_for PassesOwn.never rfl (pi_tup (C8.pe_mt c_out_of hr (by omega) (pe_fld (pv 0) rfl) (pa_cons (pv 7) pa_nil))) (pg_name (i := 10) sc_shortest_run.nd rfl (Or.inr rfl)) (pss_cons (ps_set (i := 11) sc_shortest_run.nd rfl (Or.inl rfl) (C8.pe_mt c_begun hr (by omega) (pv 2) (pa_cons (pv 8) (pa_cons (pv 10) pa_nil))))
  (pss_cons (ps_set (i := 13) sc_shortest_run.nd rfl (Or.inl rfl) (pe_callTy (call_tuple_of : CallR _ _ (rTupQ K)) rfl T.b_tuple (by decide +kernel) (pa_cons (pe_lc (own := [("one", 12)]) (g := (gName 12)) rfl sc_shortest_run.nd (pi_tup (pv 1)) (blkOk_by (N := N_shortest_run) (sc := defScope st_shortest_run) (by decide +kernel)) (fun _ _ _ _ _ => (pg_name (i := 12) sc_shortest_run.nd rfl (Or.inl rfl))) (fun _ _ _ _ _ => (pts_one (PW.pt (pw_or (pt_cmpR (op_in_seq : OpR _ _ (rIn K false)) (pv 12) (pv 9) (by rfl)) (pw_or1 (pt_cmpR op_eq (pv 12) (pv 10) (nomark _))))))) (fun _ _ _ _ _ => (pv 12))) pa_nil)))
  (pss_cons (ps_set (i := 14) sc_shortest_run.nd rfl (Or.inl rfl) (pe_tup (pa_cons (C8.pe_mt c_end_of hr (by omega) (pe_fld (pv 0) rfl) (pa_cons (pv 10) pa_nil)) (pa_cons (pv 11) (pa_cons (pv 13) pa_nil)))))
  (pss_one (ps_if (PW.pt (pw_and (pt_not (pt_val (C8.pe_mt c_is_done hr (by omega) (pv 2) (pa_cons (pv 11) pa_nil)))) (pw_and1 (pt_cmp (pc_dnotinN hr.units (pv 14) (pv 4)) rfl)))) (pss_cons (ps_dputN hr.units (pv 4) (pv 14) (pe_op op_cat (pe_dgetN hr.units (pv 4) (pe_ix ix_list (pv 5) (pv 6) (fun _ _ => rfl)) (fun _ _ => rfl)) (pe_lst (pa_cons (pv 10) pa_nil))) rfl)
  (pss_one (ps_expr (pe_bm PySem.F.plainAttrs_list PySem.F.slot_list_append PySem.F.type_list_append mt_append (pv 5) (pa_cons (pv 14) pa_nil))))) pss_nil))))))
  (pss_one (ps_aug (i := 6) sc_shortest_run.nd rfl (Or.inl rfl) pe_int ip_add))))))
  (pss_one (ps_ret pe_non))))))), ?_⟩
    walk_at "r"
    refine r_field cC (by decide) (g0.at h1) h3 ?_
    walk_at "r"
    refine e_tup g0.gh rfl fun t1 G3 H3 e3 ht1 _ => ?_
    walk_at "r"
    refine e_tup (g0.trans e3).gh rfl fun t2 G4 H4 e4 ht2 _ => ?_
    walk_at "r"
    refine e_tup ((g0.trans e3).trans e4).gh rfl fun t3 G5 H5 e5 ht3 _ => ?_
    have g := ((g0.trans e3).trans e4).trans e5
    have hsa : StandAt G5 t3 (start, [], []) := ⟨t1, t2, ht3, (e4.gg.trans e5.gg) _ _ ht1, e5.gg _ _ ht2⟩
    walk_at "r"
    refine r_oneN fun rn H6 s6 hrn hrn0 => ?_
    have hr0 := g.freeN hrn0
    have hrG := g.free1 hrn0
    have g := g.heap s6
    walk_at "r"
    refine e_lst g.gh rfl fun l0 G7 H7 e7 hl0 hl00 => ?_
    have hl00 := g.freeN hl00
    have g := g.trans e7
    have hrG := e7.new rn hrG (by rw [hrn]; intro z; cases z)
    have hrn := e7.same _ _ hrn
    have hsa := hsa.mono e7.gg
    refine oneP.mk (hsa.mono g.gh).nk (skey_depth _) hrn fun H8 hrn hr8 => ?_
    have g := g.chg hrG hr0 hr8
    walk_at "r"
    refine h_lst rfl fun qu H9 s9 hqu hqu0 => ?_
    have hq0 := g.freeN hqu0
    have hqG := g.free1 hqu0
    have hrq : rn ≠ qu := ne_of_none hrn hqu0
    have g := g.heap s9
    have hrn := s9 _ _ hrn
    have I0 : RunI H G7 lanes m.mach wn start [(skey (start, [], []), t3, .ref l0)] [.ref t3] [(start, [], [])] :=
      ⟨⟨rfl, fun en hen => by rw [List.mem_singleton.mp hen]; exact ⟨hsa.nk, skey_depth _⟩, by simp⟩, .cons ⟨t3, rfl, hsa⟩ .nil, .cons ⟨l0, [], rfl, hl0, Nat.le_refl _, hl00, by simp, rfl⟩ .nil⟩
    have hSu : (start, [], []) ∈ univ posts m.mach.n wn := univ_start hst
    walk_at "r"
    refine r_while (fun M σ H' => ∃ (G' : Hp) (kvs : List NEnt) (qs : List V) (ss : List (Stand Str)) (at1 : Nat) (y7 y8 y9 y10 y11 y12 y13 y14 : Option V), M = 400 - at1 ∧ at1 ≤ ss.length ∧ Grow no G H G' H' ∧ G' rn = none ∧ G' qu = none ∧ H' rn = some (dN P w rn kvs) ∧ H' qu = some (.lst qs) ∧
      RunI H G' lanes m.mach wn start kvs qs ss ∧ (start, [], []) ∈ ss ∧ (∀ x ∈ ss, x ∈ univ posts m.mach.n wn) ∧ (∀ i, i < at1 → ∀ x, ss[i]? = some x → ¬ goal m.mach ends [wn] x ∧ ∀ en ∈ lanes, ∀ t, step m.mach [wn] x en = some t → t ∈ ss) ∧
      σ = [some (.ref c), some (.ref wt), some (.ref a), some (.ref t3), some (.ref rn), some (.ref qu), some (.int (at1 : Nat)), y7, y8, y9, y10, y11, y12, y13, y14])
      400 ⟨G7, _, _, [(start, [], [])], 0, _, _, _, _, _, _, _, _, rfl, Nat.zero_le _, g, hrG, hqG, hrn, hqu, I0, List.mem_singleton.mpr rfl, fun x hx => by rw [List.mem_singleton.mp hx]; exact hSu, fun i hi => absurd hi (Nat.not_lt_zero _), rfl⟩ ?_
    clear g hrG hqG hrn hqu I0 hsa
    rintro M σ HA ⟨GA, kvs, qs, ss, at1, y7, y8, y9, y10, y11, y12, y13, y14, rfl, hat, g, hrG, hqG, hrn, hqu, I, hS0, hun, hproc, rfl⟩
    have hss : ss.length ≤ 320 := univ_small I.D.nd hun hp5 hm5
    walk_at "r"
    refine r_lenQL hqu ?_
    walk_at "r"
    rw [I.Q.1]
    by_cases ca : at1 < ss.length
    · refine r_yes (decide_eq_true (by omega)) ?_
      refine ⟨_, fun _ _ h => h, ?_⟩
      walk_at "r"
      have hs1 : ss[at1]? = some ss[at1] := List.getElem?_eq_getElem ca
      generalize ss[at1] = st at hs1
      have hstm := List.mem_of_getElem? hs1
      obtain ⟨_, hq1, sa, rfl, hsa⟩ := I.Q.at' hs1
      refine r_ixL hqu hq1 ?_
      obtain ⟨ta, tb, hta, htb, htc⟩ := hsa.ex
      refine r_gtup (g.at hta) rfl ?_
      refine r_gcons ?_
      refine r_name ?_
      refine r_gcons ?_
      refine r_name ?_
      refine r_gcons ?_
      refine r_name ?_
      refine r_gnil ?_
      with_reducible show tSeq _ _ _ _ _
      refine r_seq ?_
      have hsu := hun _ hstm
      have hsl := univ_places hsu
      obtain ⟨l, R, hl1, hl2, hRl, hl0, hR⟩ := I.run hstm
      refine r_ifB (decide (st.1 ∈ ends ∧ st.2.2.length = 1 ∧ m.opt = false)) (H1 := HA) (fun R' hR' => ?_) ?_
      · walk_at "r"
        refine r_field cC (by decide) (g.at (g.gg _ _ h1)) h4 ?_
        refine r_inS (ks := posts.filter fun z => decide (z ∈ ends)) (.inr (.inl (.inl (g.at (g.gg _ _ ht))))) ?_
        walk_at "r"
        have hmf : st.1 ∈ (posts.filter fun z => decide (z ∈ ends)) ↔ st.1 ∈ ends := by
          rw [List.mem_filter]
          exact ⟨fun z => of_decide_eq_true z.2, fun z => ⟨hen _ z, decide_eq_true z⟩⟩
        by_cases c1 : st.1 ∈ ends
        · refine r_yes (decide_eq_true (hmf.mpr c1)) ?_
          walk_at "r"
          refine r_lenQT (g.at htc) ?_
          walk_at "r"
          refine r_lenQT (g.at (g.gg _ _ hw)) ?_
          walk_at "r"
          refine r_eq rfl ?_
          walk_at "r"
          rw [List.length_map]
          by_cases c2 : st.2.2.length = 1
          · refine r_yes (decide_eq_true (by rw [c2]; rfl)) ?_
            walk_at "r"
            refine r_field cM (by decide) (g.at (g.gg _ _ hma)) hopt ?_
            walk_at "r"
            cases ho : m.opt with
            | true =>
              rw [decide_eq_false fun z => by rw [ho] at z; cases z.2.2] at hR'
              exact hR'
            | false =>
              rw [decide_eq_true (⟨c1, c2, ho⟩ : st.1 ∈ ends ∧ st.2.2.length = 1 ∧ m.opt = false)] at hR'
              exact hR'
          · refine r_no (decide_eq_false fun z => c2 (by have := V.int.inj z; have h1 : ([wn].map V.str).length = 1 := rfl; omega)) ?_
            rw [decide_eq_false fun z => c2 z.2.1] at hR'
            exact hR'
        · refine r_no (decide_eq_false fun z => c1 (hmf.mp z)) ?_
          rw [decide_eq_false fun z => c1 z.1] at hR'
          exact hR'
      by_cases cg : st.1 ∈ ends ∧ st.2.2.length = 1 ∧ m.opt = false
      · rw [decide_eq_true cg]
        walk_at "r"
        refine r_ixL hqu hq1 ?_
        refine ⟨rn, _, rfl, ⟨kvs, skey st, sa, .of hrn, I.D.nk.mono g.gh, rfl, (hsa.mono g.gh).nk, skey_depth _, hl1.symm⟩, ?_⟩
        walk_at "r"
        exact k2 l R HA (hR.avoid cg) g.same (g.at hl2) hl0 (by omega)
      · rw [decide_eq_false cg]
        have hng : ¬ goal m.mach ends [wn] st := cg
        walk_at "r"
        refine r_field cC (by decide) (g.at (g.gg _ _ h1)) h2 ?_
        refine ⟨b, dn, fn, rfl, g.at (g.gg _ _ hna), hnm _ (by decide), ?_⟩
        walk_at "r"
        have hpost : st.1 ∈ posts := by
          obtain ⟨p, hp, h⟩ := List.mem_flatMap.mp hsu
          obtain ⟨ps, hps, h⟩ := List.mem_flatMap.mp h
          rcases List.mem_cons.mp h with h | h
          · rw [h]; exact hp
          · rw [List.mem_singleton.mp h]; exact hp
        refine ⟨b, posts, lanes, st.1, rfl, (hn.mono g.gg).mono g.gh, hnet, hpost, fun qo HB sB hqo0 hqo => ?_⟩
        have hLm : ∀ e, e ∈ (lanes.filter fun e => decide (e.2.1 = st.1)) → e ∈ lanes ∧ e.2.1 = st.1 := fun e he => ⟨(List.mem_filter.mp he).1, of_decide_eq_true (List.mem_filter.mp he).2⟩
        have hLm2 : ∀ e ∈ lanes, e.2.1 = st.1 → e ∈ (lanes.filter fun e => decide (e.2.1 = st.1)) := fun e he h => List.mem_filter.mpr ⟨he, decide_eq_true h⟩
        revert hqo hLm hLm2
        generalize (lanes.filter fun e => decide (e.2.1 = st.1)) = L
        intro hqo hLm hLm2
        have eB := ((Grow.refl g.gh (m := no)).heap sB).tell hqo hqo0
        have hqoG : upd GA qo (.tup ((L.map (·.1)).map V.str)) qo = some (.tup ((L.map (·.1)).map V.str)) := upd_same
        revert eB hqoG
        generalize upd GA qo (.tup ((L.map (·.1)).map V.str)) = GB
        intro eB hqoG
        refine ⟨qo, rfl, ⟨_, .inl (.inl hqo)⟩, ?_⟩
        refine for_it (walk_tup (xs := (L.map (·.1)).map V.str)) (fun j σ H' => ∃ (G' : Hp) (kvs : List NEnt) (qs : List V) (ss2 ext : List (Stand Str)) (y10 y11 y12 y13 y14 : Option V), ss2 = ss ++ ext ∧ Grow no G H G' H' ∧ Same GB G' ∧ G' rn = none ∧ G' qu = none ∧ H' rn = some (dN P w rn kvs) ∧ H' qu = some (.lst qs) ∧
          RunI H G' lanes m.mach wn start kvs qs ss2 ∧ (∀ x ∈ ss2, x ∈ univ posts m.mach.n wn) ∧ (∀ en ∈ L.take j, ∀ t, step m.mach [wn] st en = some t → t ∈ ss2) ∧
          σ = [some (.ref c), some (.ref wt), some (.ref a), some (.ref t3), some (.ref rn), some (.ref qu), some (.int (at1 : Nat)), some (.str st.1), some (.ref ta), some (.ref tb), y10, y11, y12, y13, y14])
          ⟨GB, kvs, qs, ss, [], _, _, _, _, _, (List.append_nil _).symm, g.trans eB, Same.refl _, eB.new _ hrG (by rw [hrn]; intro z; cases z), eB.new _ hqG (by rw [hqu]; intro z; cases z), eB.same _ _ hrn, eB.same _ _ hqu, I.mono eB.gg, hun, by simp, rfl⟩ (fun i σ H' _ ⟨_, _, _, _, _, _, _, _, _, _, _, g, s, _⟩ => .inl (.inl (g.at (s _ _ hqoG)))) ?_ ?_
        · clear g hrG hqG hrn hqu I hproc hun hss hl1 hl2 hRl hl0 hR hsa hq1 ca hat
          have htaB := eB.gg _ _ hta
          have htbB : NatT GB ta st.2.1 := eB.gg _ _ htb
          have htcB : StrT GB tb st.2.2 := eB.gg _ _ htc
          rintro j v σ HC' HC hj ⟨GC, kvs, qs, ss2, ext, y10, y11, y12, y13, y14, hext, g, sC, hrG, hqG, hrn, hqu, I, hun, hcur, rfl⟩ ⟨rfl, hv⟩
          rw [List.getElem?_map, List.getElem?_map] at hv
          obtain ⟨z, hz, rfl⟩ := Option.map_eq_some_iff.mp hv
          obtain ⟨en, hen1, rfl⟩ := Option.map_eq_some_iff.mp hz
          obtain ⟨henm, c1⟩ := hLm en (List.mem_of_getElem? hen1)
          have hss : ss2.length ≤ 320 := univ_small I.D.nd hun hp5 hm5
          have hs2 : ss2[at1]? = some st := by rw [hext, List.getElem?_append_left (List.getElem?_eq_some_iff.mp hs1).1]; exact hs1
          have hmn : m.mach.n ≤ 5 := hm5
          walk_at "r"
          refine ⟨a, dm, fm, rfl, g.at (g.gg _ _ hma), hmm _ (by decide), ?_⟩
          walk_at "r"
          refine ⟨a, ta, m, st.2.1, en.1, rfl, (hm.mono g.gg).mono g.gh, g.at (sC _ _ htbB), by omega, by omega, fun q5 HF s5 hq50 hq5 => ?_⟩
          have e5 := ((Grow.refl g.gh (m := no)).heap s5).tell hq5 hq50
          have hq5G : upd GC q5 (.tup ((m.mach.begun st.2.1 en.1).map natV)) q5 = some (.tup ((m.mach.begun st.2.1 en.1).map natV)) := upd_same
          revert e5 hq5G
          generalize upd GC q5 (.tup ((m.mach.begun st.2.1 en.1).map natV)) = GF
          intro e5 hq5G
          have hbl : (m.mach.begun st.2.1 en.1).length ≤ 5 := Nat.le_trans (Mach.begun_len _ _ _) hmn
          have g5 := g.trans e5
          walk_at "r"
          refine ⟨wt, rfl, ⟨_, .inl (.inl (g5.at (g5.gg _ _ hw)))⟩, fun Dl2 hD => ?_⟩
          have htc5 := e5.gg _ _ (sC _ _ htcB)
          let ff : Str → Bool := fun o => decide (o ∈ st.2.2) || decide (o = en.1)
          refine lc_it (walk_tup (xs := [wn].map V.str)) (fun i H' => Same HF H' ∧ StrL H' Dl2 (([wn].take i).filter ff)) ⟨same_upd hD, upd_same⟩ (fun _ _ _ h => .inl (.inl (h.1 _ _ (g5.at (g5.gg _ _ hw))))) ?_ ?_
          · rintro i2 v H6' H6 hi2 ⟨s7, hDl⟩ ⟨rfl, hx⟩
            rw [List.getElem?_map] at hx
            obtain ⟨z, hz, rfl⟩ := Option.map_eq_some_iff.mp hx
            have hlen2 : (([wn].take i2).filter ff).length ≤ 1 := Nat.le_trans (List.length_filter_le _ _) (by rw [List.length_take]; exact Nat.min_le_right _ _)
            have yes : ff z = true → ∃ acc, H6 Dl2 = some (.lst acc) ∧ acc.length < sizeLine ∧ Same HF (upd H6 Dl2 (.lst (acc ++ [V.str z]))) ∧ StrL (upd H6 Dl2 (.lst (acc ++ [V.str z]))) Dl2 (([wn].take (i2 + 1)).filter ff) := fun hf => by
              refine ⟨_, hDl, by rw [List.length_map]; exact small_lt (by omega), s7.upd_mut hD, ?_⟩
              show upd _ _ _ _ = _
              rw [upd_same, take_snoc hz, List.filter_append, List.filter_cons_of_pos hf, List.filter_nil, List.map_append]
              rfl
            walk_at "r"
            refine ⟨rfl, ?_⟩
            walk_at "r"
            refine r_inS (ks := st.2.2) (.inr (.inl (.inl (s7 _ _ (g5.at htc5))))) ?_
            walk_at "r"
            by_cases c3 : z ∈ st.2.2
            · refine r_yes (decide_eq_true c3) ?_
              walk_at "r"
              exact yes (by show (decide (z ∈ st.2.2) || _) = true; rw [decide_eq_true c3]; rfl)
            · refine r_no (decide_eq_false c3) ?_
              walk_at "r"
              refine r_eq rfl ?_
              walk_at "r"
              by_cases c4 : z = en.1
              · refine r_yes (decide_eq_true (by rw [c4])) ?_
                walk_at "r"
                exact yes (by show (_ || decide (z = en.1)) = true; rw [decide_eq_true c4, Bool.or_true])
              · refine r_no (decide_eq_false fun q => c4 (V.str.inj q)) ?_
                refine ⟨s7, ?_⟩
                rw [take_snoc hz, List.filter_append, List.filter_cons_of_neg (by show ¬ (decide (z ∈ st.2.2) || decide (z = en.1)) = true; rw [decide_eq_false c3, decide_eq_false c4]; decide), List.filter_nil, List.append_nil]
                exact hDl
          · rintro H6 ⟨s7, hDl⟩
            have hDl : StrL H6 Dl2 (more [wn] st.2.2 en.1) := hDl
            have e7 := e5.heap s7
            walk_at "r"
            refine e_tupQ e7.gh hDl fun t6 G7 H7 e8 ht6 _ => ?_
            have e9 := e7.trans e8
            have g9 := g.trans e9
            walk_at "r"
            refine r_field cC (by decide) (g9.at (g9.gg _ _ h1)) h2 ?_
            refine ⟨b, dn, fn, rfl, g9.at (g9.gg _ _ hna), hnm _ (by decide), ?_⟩
            walk_at "r"
            refine ⟨b, posts, lanes, en, rfl, (hn.mono g9.gg).mono g9.gh, hnet.ln.nd, henm, ?_⟩
            walk_at "r"
            refine e_tup g9.gh rfl fun t7 G8 H8 e10 ht7 _ => ?_
            have e11 := e9.trans e10
            have g := g.trans e11
            have hsat : StandAt G8 t7 (en.2.2, m.mach.begun st.2.1 en.1, more [wn] st.2.2 en.1) := ⟨q5, t6, ht7, (e8.gg.trans e10.gg) _ _ hq5G, e10.gg _ _ ht6⟩
            walk_at "r"
            refine ⟨a, dm, fm, rfl, g.at (g.gg _ _ hma), hmm _ (by decide), ?_⟩
            walk_at "r"
            refine ⟨a, q5, m, _, rfl, (hm.mono g.gg).mono g.gh, g.at ((e8.gg.trans e10.gg) _ _ hq5G), by omega, fun H9 s9 => ?_⟩
            have e12 := e11.heap s9
            have g := g.heap s9
            have hrG := e12.new _ hrG (by rw [hrn]; intro z; cases z)
            have hqG := e12.new _ hqG (by rw [hqu]; intro z; cases z)
            have hrn := e12.same _ _ hrn
            have hqu := e12.same _ _ hqu
            have sC := sC.trans e12.gg
            have I := I.mono e12.gg
            walk_at "r"
            by_cases c2 : m.mach.done (m.mach.begun st.2.1 en.1) = true
            · refine r_no' c2 ?_
              walk_at "r"
              refine ⟨_, kvs, qs, ss2, ext, _, _, _, _, _, hext, g, sC, hrG, hqG, hrn, hqu, I, hun, ?_, rfl⟩
              intro e' he' t ht
              rw [take_snoc hen1] at he'
              rcases List.mem_append.mp he' with h | h
              · exact hcur e' h t ht
              · rw [List.mem_singleton.mp h] at ht
                unfold step at ht
                rw [if_neg (fun z => by rw [c2] at z; cases z.2)] at ht
                cases ht
            · have c2 := eq_false_of_ne_true c2
              have hstep : step m.mach [wn] st en = some (en.2.2, m.mach.begun st.2.1 en.1, more [wn] st.2.2 en.1) := by unfold step; rw [if_pos ⟨c1, c2⟩]
              refine r_yes' c2 ?_
              walk_at "r"
              revert hsat hstep
              have hun2 : ∀ t, step m.mach [wn] st en = some t → t ∈ univ posts m.mach.n wn := fun t h => univ_step (hnet.ends en henm).2 h
              generalize (en.2.2, m.mach.begun st.2.1 en.1, more [wn] st.2.2 en.1) = tt
              intro hsat hstep
              refine ⟨rn, _, rfl, ⟨kvs, skey tt, t7, .of hrn, I.D.nk.mono g.gh, rfl, (hsat.mono g.gh).nk, skey_depth _, rfl⟩, ?_⟩
              walk_at "r"
              rw [I.D.isSome]
              have keep : ∀ {ss3 : List (Stand Str)}, (∀ x ∈ ss2, x ∈ ss3) → tt ∈ ss3 → ∀ e' ∈ L.take (j + 1), ∀ t, step m.mach [wn] st e' = some t → t ∈ ss3 := fun {ss3} hs ht e' he' t h => by
                rw [take_snoc hen1] at he'
                rcases List.mem_append.mp he' with hm | hm
                · exact hs _ (hcur e' hm t h)
                · rw [List.mem_singleton.mp hm, hstep] at h
                  rw [← Option.some.inj h]; exact ht
              by_cases c5 : tt ∈ ss2
              · refine r_no (by rw [decide_eq_true c5]; rfl) ?_
                walk_at "r"
                exact ⟨_, kvs, qs, ss2, ext, _, _, _, _, _, hext, g, sC, hrG, hqG, hrn, hqu, I, hun, keep (fun _ h => h) c5, rfl⟩
              · refine r_yes (by rw [decide_eq_false c5]; rfl) ?_
                obtain ⟨v1, hq1, sa, hv1, hsa⟩ := I.Q.at' hs2
                subst hv1
                obtain ⟨l, R, hl1, hl2, hRl, hl0, hR⟩ := I.run (List.mem_of_getElem? hs2)
                walk_at "r"
                refine r_ixL hqu hq1 ?_
                refine ⟨rn, _, rfl, ⟨kvs, skey st, sa, .of hrn, I.D.nk.mono g.gh, rfl, (hsa.mono g.gh).nk, skey_depth _, hl1.symm⟩, ?_⟩
                walk_at "r"
                refine e_lst g.gh rfl fun l2 GD HD e13 hl2' _ => ?_
                have g := g.trans e13
                refine e_cat g.gh (e13.gg _ _ hl2) hl2' (by rw [List.length_map, List.length_map]; show _ + 1 ≤ _; omega) fun l3 GE HE e14 hl3 hl30 => ?_
                have hl30 := g.freeN hl30
                have g := g.trans e14
                have e15 := e13.trans e14
                have hrG := e15.new _ hrG (by rw [hrn]; intro z; cases z)
                have hqG := e15.new _ hqG (by rw [hqu]; intro z; cases z)
                have hrn := e15.same _ _ hrn
                have hqu := e15.same _ _ hqu
                have sC := sC.trans e15.gg
                have I := I.mono e15.gg
                have hsat := hsat.mono e15.gg
                have hl3 : StrL GE l3 ((R ++ [en]).map (·.1)) := by
                  show _ = _
                  rw [List.map_append, List.map_append]
                  exact hl3
                have I2 := I.put c5 hsat hl3 hRl hl30 hR henm hstep
                walk_at "r"
                refine ⟨rn, upd HE rn (dN P w rn (putN kvs (skey tt) t7 (.ref l3))), rfl, ⟨kvs, _, t7, hrn, I.D.nk.mono g.gh, rfl, (hsat.mono g.gh).nk, skey_depth _, by rw [I.D.len]; exact small_lt (by omega), rfl⟩, ?_⟩
                have g := g.mut (o := dN P w rn (putN kvs (skey tt) t7 (.ref l3))) hrG (.inl hr0)
                have hqu : upd HE rn (dN P w rn (putN kvs (skey tt) t7 (.ref l3))) qu = some (.lst qs) := by rw [upd_ne (Ne.symm hrq)]; exact hqu
                have hrn : upd HE rn (dN P w rn (putN kvs (skey tt) t7 (.ref l3))) rn = some (dN P w rn (putN kvs (skey tt) t7 (.ref l3))) := upd_same
                revert g hqu hrn
                generalize upd HE rn (dN P w rn (putN kvs (skey tt) t7 (.ref l3))) = HF2
                intro g hqu hrn
                walk_at "r"
                refine r_tyL hqu ?_
                walk_at "r"
                refine r_app hqu (by rw [I.Q.1]; exact small_lt (by omega)) ?_
                have g := g.mut (o := .lst (qs ++ [.ref t7])) hqG (.inl hq0)
                refine ⟨_, _, _, ss2 ++ [tt], ext ++ [tt], _, _, _, _, _, by rw [hext, List.append_assoc], g, sC, hrG, hqG, by rw [upd_ne hrq]; exact hrn, upd_same, I2, ?_, keep (fun _ h => List.mem_append_left _ h) (List.mem_append_right _ (List.mem_singleton.mpr rfl)), rfl⟩
                intro x hx
                rcases List.mem_append.mp hx with hx | hx
                · exact hun x hx
                · rw [List.mem_singleton.mp hx]; exact hun2 _ hstep
        · rintro σ HC ⟨GC, kvs2, qs2, ss2, ext, y10, y11, y12, y13, y14, hext, g, sC, hrG, hqG, hrn, hqu, I, hun, hcur, rfl⟩
          rw [List.length_map, List.length_map, List.take_length] at hcur
          walk_at "r"
          refine ⟨_, _, rfl, rfl, ?_⟩
          walk_at "r"
          refine ⟨400 - (at1 + 1), ?_, GC, kvs2, qs2, ss2, at1 + 1, _, _, _, _, _, _, _, _, rfl, ?_, g, hrG, hqG, hrn, hqu, I, ?_, hun, ?_, rfl⟩
          · omega
          · rw [hext, List.length_append]; omega
          · rw [hext]; exact List.mem_append_left _ hS0
          · intro i hi x hx
            have hx1 : ss[i]? = some x := by rw [hext, List.getElem?_append_left (by omega)] at hx; exact hx
            by_cases ci : i < at1
            · obtain ⟨p, q⟩ := hproc i ci x hx1
              exact ⟨p, fun en he t ht => by rw [hext]; exact List.mem_append_left _ (q en he t ht)⟩
            · have : i = at1 := by omega
              subst this
              rw [hs1] at hx1
              cases Option.some.inj hx1
              refine ⟨hng, fun en he t ht => hcur en (hLm2 en he ?_) t ht⟩
              unfold step at ht
              by_cases cc : en.2.1 = st.1 ∧ m.mach.done (m.mach.begun st.2.1 en.1) = false
              · exact cc.1
              · rw [if_neg cc] at ht; cases ht
    · refine r_no (decide_eq_false (by omega)) ?_
      walk_at "r"
      have all : ∀ x ∈ ss, ¬ goal m.mach ends [wn] x ∧ ∀ en ∈ lanes, ∀ t, step m.mach [wn] x en = some t → t ∈ ss := fun x hx => by
        obtain ⟨i, hi⟩ := List.mem_iff_getElem?.mp hx
        exact hproc i (by have := (List.getElem?_eq_some_iff.mp hi).1; omega) x hi
      exact k1 (fun ⟨R, h⟩ => no_avoid hS0 (C := ss) (fun x hx => (all x hx).2) (fun x hx => (all x hx).1) h) _ g.same
end
end K48
/-! ## KD30 -/
set_option maxHeartbeats 4000000
namespace K48
open PySem L2
local macro_rules | `(tactic| walk_at "r1") => `(tactic| first
  | with_reducible refine r_seq ?_ | with_reducible refine r_asg ?_ | with_reducible refine r_ret ?_ | with_reducible refine r_drop ?_ | with_reducible refine r_if ?_ | with_reducible refine r_next ?_
  | with_reducible refine r_name ?_ | with_reducible refine r_c ?_ | ((with_reducible show tVar _ _ _ _); refine r_var rfl ?_) | with_reducible refine r_op ?_ | with_reducible refine r_un ?_
  | with_reducible refine r_i0 ?_ | with_reducible refine r_test ?_ | with_reducible refine r_tB ?_ | with_reducible refine r_bl ?_ | with_reducible refine r_and ?_ | with_reducible refine r_or ?_
  | with_reducible refine r_not ?_ | with_reducible refine r_ifE ?_ | with_reducible refine r_cons ?_ | with_reducible refine r_nil ?_ | with_reducible refine r_cb ?_ | with_reducible refine r_call ?_
  | with_reducible refine r_lstG ?_ | with_reducible refine r_tupG ?_ | with_reducible refine r_sl ?_ | with_reducible refine r_noP ?_ | with_reducible refine r_part ?_ | with_reducible refine r_exI ?_
  | with_reducible refine r_tr ?_ | with_reducible refine r_fa ?_ | with_reducible refine r_for ?_ | with_reducible refine r_iList ?_ | with_reducible refine r_iTup ?_ | with_reducible refine r_iStr ?_
  | with_reducible refine r_iR1 ?_ | with_reducible refine r_iR2 ?_ | with_reducible refine r_lc ?_ | with_reducible refine r_nt ?_ | with_reducible refine r_nf ?_ | with_reducible refine r_orV ?_ | with_reducible refine r_andV ?_ | with_reducible refine r_yesT ?_ | with_reducible refine r_gsub ?_ | with_reducible refine r_gcons ?_ | with_reducible refine r_gnil ?_ | with_reducible refine r_bm ?_ | with_reducible refine r_bm0 ?_
  | with_reducible refine r_fldG ?_ | with_reducible refine r_sfldG ?_ | with_reducible refine r_meth ?_ | with_reducible refine r_make ?_ | with_reducible refine r_dget ?_ | with_reducible refine r_din ?_ | with_reducible refine r_dnin ?_ | with_reducible refine r_dput ?_
  | with_reducible refine r_dgetN ?_ | with_reducible refine r_dinN ?_ | with_reducible refine r_dninN ?_ | with_reducible refine r_dputN ?_ | ((with_reducible show tAug _ _ _ _ _ _); refine r_aug rfl ?_) | with_reducible refine r_par ?_ | with_reducible refine r_neg ?_ | with_reducible refine r_iEnum ?_ | with_reducible refine r_iZip ?_ | with_reducible refine r_iZipA ?_)
local macro_rules | `(tactic| walk_at "r") => `(tactic| repeat walk_at "r1")

def RunV (G : Hp) (lanes : List (Lane Str)) (M : Mach Str) (start : Str) (ends : List Str) (v : V) (w : Str) : Prop := ∃ l R, v = .ref l ∧ StrL G l (R.map (·.1)) ∧ Avoid lanes M start ends w R
def spRight : Sp := fun vs H Q _ => ∃ (q e wl a rl : Addr) (start : Str) (ends ws : List Str) (rs : List V) (m : ML Str) (G : Hp) (posts : List Str) (lanes : List (Lane Str)), vs = [.ref q, .str start, .ref e, .ref wl, .ref a, .ref rl] ∧ Same G H ∧ PartsAt G q posts lanes ∧ NetD posts lanes ∧ StrL G e ends ∧ StrL G wl ws ∧
  MachL G a m ∧ m.atoms.length ≤ 5 ∧ G rl = some (.lst rs) ∧ Seq2 (RunV G lanes m.mach start ends) rs ws ∧ ws.length ≤ 100 ∧ ∀ H', Same H H' → Q (.bl true) H'
section
variable {P : Program} {w : World} {K : PySem.W.Frag} {mg : Str → Option Value} {base : Heap}
theorem isi_ll {K : PySem.W.Frag} : PySem.W.kitOne K (.type "list") (.type "list") = some true := by
  unfold PySem.W.kitOne
  rfl
abbrev st__law_right : Stmt := topS 101
abbrev N__law_right : List Str := ["_law_parts", "_law_start", "_law_ends_here", "_law_wanted", "_law_machine_here", "_law_runs", "_law_lane", "_law_run"]
theorem sc__law_right : FnScope N__law_right ["_law_parts", "_law_start", "_law_ends_here", "_law_wanted", "_law_machine_here", "_law_runs"] (defScope st__law_right) := ⟨rfl, rfl, rfl, by decide +kernel, rfl, by decide +kernel, by decide +kernel⟩
theorem ok__law_right (T : Top K mg) (F : Dn K mg "_law_right" st__law_right) (c__law_is_run : Cal P w K mg base 2 "_law_is_run" spIsRun) (c__law_run_shows : Cal P w K mg base 3 "_law_run_shows" spRunShows) : Cal P w K mg base 4 "_law_right" spRight := by
  refine F.cal sc__law_right (fun vs H Q E h => ?_) (fun _ _ _ _ _ _ us hl => match us, hl with | [_, _, _, _, _, _], _ => rfl) (fun f cdv A outer s H vs Q E hr h => ?_)
  · obtain ⟨q, e, wl, a, rl, start, ends, ws, rs, m, G, posts, lanes, rfl, _⟩ := h
    rfl
  · obtain ⟨q, e, wl, a, rl, start, ends, ws, rs, m, G, posts, lanes, rfl, sg, hparts, hnet, he, hwl, hm, hm5, hrl, hrs, hw100, k⟩ := h
    refine ⟨_, (pss_cons (ps_if (PW.pt (pw_or (pt_not (pt_val (pe_callB call_isi rfl T.b_isinstance (by decide +kernel) (pa_cons (pv 5) (pa_cons (pe_bltn (v := .ty "list") rfl T.b_list (by decide +kernel) rfl) pa_nil))))) (pw_or1 (pt_cmpR op_ne (pe_callB (call_len_seq : CallR _ _ (rLenQ K)) rfl T.b_len (by decide +kernel) (pa_cons (pv 5) pa_nil)) (pe_callB (call_len_seq : CallR _ _ (rLenQ K)) rfl T.b_len (by decide +kernel) (pa_cons (pv 3) pa_nil)) (nomark _))))) (pss_one (ps_ret pe_bl)) pss_nil)
  (pss_cons (ps_for PassesOwn.never rfl (pi_zip rfl T.b_zip (pa_cons (pv 3) (pa_cons (pv 5) pa_nil))) (pg_tup rfl (pgs_cons (pg_name (i := 6) sc__law_right.nd rfl (Or.inl rfl)) (pgs_cons (pg_name (i := 7) sc__law_right.nd rfl (Or.inl rfl)) pgs_nil))) (pss_one (ps_if (PW.pt (pw_or (pt_not (pt_val (C8.pe_c c__law_is_run hr (by omega) rfl (pa_cons (pv 0) (pa_cons (pv 1) (pa_cons (pv 2) (pa_cons (pv 7) pa_nil))))))) (pw_or (pt_cmpR op_notIn_seq (pv 6) (pv 7) (by rfl)) (pw_or1 (pt_val (C8.pe_c c__law_run_shows hr (by omega) rfl (pa_cons (pv 7) (pa_cons (pv 4) pa_nil)))))))) (pss_one (ps_ret pe_bl)) pss_nil)))
  (pss_one (ps_ret pe_bl)))), ?_⟩
    walk_at "r"
    have hlen : rs.length = ws.length := hrs.1
    refine r_isi (b := true) (.ty _) (.base (.lst (sg _ _ hrl))) isi_ll ?_
    walk_at "r"
    refine r_lenQL (sg _ _ hrl) ?_
    walk_at "r"
    refine r_lenQL (sg _ _ hwl) ?_
    walk_at "r"
    refine r_ne rfl ?_
    walk_at "r"
    refine r_no (by rw [List.length_map, hlen, decide_eq_true rfl]; rfl) ?_
    walk_at "r"
    refine ⟨wl, rl, _, rs, rfl, .inl (.inl (sg _ _ hwl)), .inl (.inl (sg _ _ hrl)), ?_⟩
    refine for_it (walk_zip (n := ws.length) (by rw [List.length_map, hlen, Nat.min_self])) (fun i σ H' => ∃ (y6 y7 : Option V), Same H H' ∧ σ = [some (.ref q), some (.str start), some (.ref e), some (.ref wl), some (.ref a), some (.ref rl), y6, y7]) ⟨_, _, Same.refl _, rfl⟩ (fun i σ H' _ ⟨_, _, s, _⟩ => ⟨.inl (.inl (s _ _ (sg _ _ hwl))), .inl (.inl (s _ _ (sg _ _ hrl)))⟩) ?_ ?_
    · rintro i v σ H3' H3 hi ⟨y6, y7, s3, rfl⟩ ⟨T1, x, v, rfl, hT, rfl, hx, hv⟩
      have hx : (ws.map V.str)[i]? = some x := hx
      have hv : rs[i]? = some v := hv
      rw [List.getElem?_map] at hx
      obtain ⟨wn, hwn, rfl⟩ := Option.map_eq_some_iff.mp hx
      obtain ⟨l, R, rfl, hl, hR⟩ := hrs.2 i _ _ hv hwn
      have s4 := s3.trans (same_upd (o := .tup [.str wn, .ref l]) hT)
      refine r_gtup upd_same rfl ?_
      revert s4
      generalize upd H3' T1 (.tup [.str wn, .ref l]) = H4
      intro s4
      walk_at "r"
      obtain ⟨z, hz, hze⟩ := hR.walk
      refine ⟨q, e, l, start, z, ends, R, G, posts, lanes, rfl, sg.trans s4, hparts, hnet.ln.nd, hnet.l8, he, hl, ⟨hR.mem, hz⟩, hze, fun H5 s5 => ?_⟩
      have s5 := s4.trans s5
      walk_at "r"
      refine r_ninS (ks := R.map (·.1)) (.inl (.inl (.inl (s5 _ _ (sg _ _ hl))))) ?_
      walk_at "r"
      refine r_no (by rw [decide_eq_true hR.takes]; rfl) ?_
      walk_at "r"
      refine ⟨l, a, R.map (·.1), m, rfl, s5 _ _ (sg _ _ hl), (hm.mono sg).mono s5, by omega, fun H6 s6 => ?_⟩
      walk_at "r"
      have hq := hR.quiet
      rw [quiet_names] at hq
      have ho : m.opt = false := hR.opt
      refine r_no (by rw [hq, ho]; rfl) ?_
      walk_at "r"
      exact ⟨_, _, s5.trans s6, rfl⟩
    · rintro σ H5 ⟨y6, y7, s5, rfl⟩
      walk_at "r"
      exact k H5 s5
end
end K48
/-! ## KD31 -/
set_option maxHeartbeats 4000000
namespace K48
open PySem L2
local macro_rules | `(tactic| walk_at "r1") => `(tactic| first
  | with_reducible refine r_seq ?_ | with_reducible refine r_asg ?_ | with_reducible refine r_ret ?_ | with_reducible refine r_drop ?_ | with_reducible refine r_if ?_ | with_reducible refine r_next ?_
  | with_reducible refine r_name ?_ | with_reducible refine r_c ?_ | ((with_reducible show tVar _ _ _ _); refine r_var rfl ?_) | with_reducible refine r_op ?_ | with_reducible refine r_un ?_
  | with_reducible refine r_i0 ?_ | with_reducible refine r_test ?_ | with_reducible refine r_tB ?_ | with_reducible refine r_bl ?_ | with_reducible refine r_and ?_ | with_reducible refine r_or ?_
  | with_reducible refine r_not ?_ | with_reducible refine r_ifE ?_ | with_reducible refine r_cons ?_ | with_reducible refine r_nil ?_ | with_reducible refine r_cb ?_ | with_reducible refine r_call ?_
  | with_reducible refine r_lstG ?_ | with_reducible refine r_tupG ?_ | with_reducible refine r_sl ?_ | with_reducible refine r_noP ?_ | with_reducible refine r_part ?_ | with_reducible refine r_exI ?_
  | with_reducible refine r_tr ?_ | with_reducible refine r_fa ?_ | with_reducible refine r_for ?_ | with_reducible refine r_iList ?_ | with_reducible refine r_iTup ?_ | with_reducible refine r_iStr ?_
  | with_reducible refine r_iR1 ?_ | with_reducible refine r_iR2 ?_ | with_reducible refine r_lc ?_ | with_reducible refine r_nt ?_ | with_reducible refine r_nf ?_ | with_reducible refine r_orV ?_ | with_reducible refine r_andV ?_ | with_reducible refine r_yesT ?_ | with_reducible refine r_gsub ?_ | with_reducible refine r_gcons ?_ | with_reducible refine r_gnil ?_ | with_reducible refine r_bm ?_ | with_reducible refine r_bm0 ?_
  | with_reducible refine r_fldG ?_ | with_reducible refine r_sfldG ?_ | with_reducible refine r_meth ?_ | with_reducible refine r_make ?_ | with_reducible refine r_dget ?_ | with_reducible refine r_din ?_ | with_reducible refine r_dnin ?_ | with_reducible refine r_dput ?_
  | with_reducible refine r_dgetN ?_ | with_reducible refine r_dinN ?_ | with_reducible refine r_dninN ?_ | with_reducible refine r_dputN ?_ | ((with_reducible show tAug _ _ _ _ _ _); refine r_aug rfl ?_) | with_reducible refine r_par ?_ | with_reducible refine r_neg ?_ | with_reducible refine r_iEnum ?_ | with_reducible refine r_iZip ?_ | with_reducible refine r_iZipA ?_)
local macro_rules | `(tactic| walk_at "r") => `(tactic| repeat walk_at "r1")

abbrev st_Brought_init : Stmt := inClass (topS 12) 0
abbrev N_Brought_init : List Str := ["self", "name"]
theorem sc_Brought_init : FnScope N_Brought_init ["self", "name"] (defScope st_Brought_init) := ⟨rfl, rfl, rfl, by decide +kernel, rfl, by decide +kernel, by decide +kernel⟩
def spBrInit (CB : Addr) : Sp := fun vs H Q _ => ∃ (a : Addr) (z : Str), vs = [.ref a, .str z] ∧ H a = some (exo a CB none) ∧ ∀ dx, H dx = none → dx ≠ a → Q .non (upd (upd H dx (exd dx [("name", .str z)])) a (exo a CB (some dx)))
/-- the error's class -/
structure BrC (K : PySem.W.Frag) (mg : Str → Option Value) (C : Addr) : Prop where
  oex : OexC K C
  no : PySem.W.findIn K (.ref C) "name" = some none
  g : mg "Brought" = some (.ref C)
  ini : ∃ (f : Addr) (fd : FuncData), L2.Fun K "__init__" "Brought.__init__" st_Brought_init f fd ∧ PySem.W.findIn K (.ref C) "__init__" = some (some (.ref f)) ∧ PySem.W.typeIn K (.ref f) = some (.type "function")
section
variable {P : Program} {w : World} {K : PySem.W.Frag} {mg : Str → Option Value} {base : Heap} {CB : Addr}
theorem ok_Brought_init (B : BrC K mg CB) {f : Addr} {fd : FuncData} (F : L2.Fun K "__init__" "Brought.__init__" st_Brought_init f fd) : FnOk P w K mg base C8.CX0 1 f fd ["self", "name"] (spBrInit CB) := by
  refine F.ok sc_Brought_init (fun vs H Q E h => ?_) (fun cdv A outer s H vs Q E hr h => ?_)
  · obtain ⟨a, z, rfl, _⟩ := h
    rfl
  · obtain ⟨a, z, rfl, ha, k⟩ := h
    refine ⟨_, pss_one (ps_ost (pv 0) (pv 1)), ?_⟩
    exact ⟨_, rfl, _, rfl, a, CB, rfl, B.oex, B.no, .inl ⟨ha, k⟩⟩
end
end K48
/-! ## KD32 -/
set_option maxHeartbeats 4000000
namespace K48
open PySem L2
local macro_rules | `(tactic| walk_at "r1") => `(tactic| first
  | with_reducible refine r_seq ?_ | with_reducible refine r_asg ?_ | with_reducible refine r_ret ?_ | with_reducible refine r_drop ?_ | with_reducible refine r_if ?_ | with_reducible refine r_next ?_
  | with_reducible refine r_name ?_ | with_reducible refine r_c ?_ | ((with_reducible show tVar _ _ _ _); refine r_var rfl ?_) | with_reducible refine r_op ?_ | with_reducible refine r_un ?_
  | with_reducible refine r_i0 ?_ | with_reducible refine r_test ?_ | with_reducible refine r_tB ?_ | with_reducible refine r_bl ?_ | with_reducible refine r_and ?_ | with_reducible refine r_or ?_
  | with_reducible refine r_not ?_ | with_reducible refine r_ifE ?_ | with_reducible refine r_cons ?_ | with_reducible refine r_nil ?_ | with_reducible refine r_cb ?_ | with_reducible refine r_call ?_
  | with_reducible refine r_lstG ?_ | with_reducible refine r_tupG ?_ | with_reducible refine r_sl ?_ | with_reducible refine r_noP ?_ | with_reducible refine r_part ?_ | with_reducible refine r_exI ?_
  | with_reducible refine r_tr ?_ | with_reducible refine r_fa ?_ | with_reducible refine r_for ?_ | with_reducible refine r_iList ?_ | with_reducible refine r_iTup ?_ | with_reducible refine r_iStr ?_
  | with_reducible refine r_iR1 ?_ | with_reducible refine r_iR2 ?_ | with_reducible refine r_lc ?_ | with_reducible refine r_nt ?_ | with_reducible refine r_nf ?_ | with_reducible refine r_orV ?_ | with_reducible refine r_andV ?_ | with_reducible refine r_yesT ?_ | with_reducible refine r_gsub ?_ | with_reducible refine r_gcons ?_ | with_reducible refine r_gnil ?_ | with_reducible refine r_bm ?_ | with_reducible refine r_bm0 ?_
  | with_reducible refine r_fldG ?_ | with_reducible refine r_sfldG ?_ | with_reducible refine r_meth ?_ | with_reducible refine r_make ?_ | with_reducible refine r_dget ?_ | with_reducible refine r_din ?_ | with_reducible refine r_dnin ?_ | with_reducible refine r_dput ?_
  | with_reducible refine r_dgetN ?_ | with_reducible refine r_dinN ?_ | with_reducible refine r_dninN ?_ | with_reducible refine r_dputN ?_ | ((with_reducible show tAug _ _ _ _ _ _); refine r_aug rfl ?_) | with_reducible refine r_par ?_ | with_reducible refine r_neg ?_ | with_reducible refine r_iEnum ?_ | with_reducible refine r_iZip ?_ | with_reducible refine r_iZipA ?_)
local macro_rules | `(tactic| walk_at "r") => `(tactic| repeat walk_at "r1")

/-- a run as suite laid it: a list of its own -/
def RunF (H0 H : Hp) (Lr : Addr) (lanes : List (Lane Str)) (M : Mach Str) (start : Str) (ends : List Str) (v : V) (w : Str) : Prop := ∃ l R, v = .ref l ∧ l ≠ Lr ∧ H0 l = none ∧ StrL H l (R.map (·.1)) ∧ R.length ≤ 400 ∧ Avoid lanes M start ends w R
def spSuite (CC CN CP CB : Addr) (D : Nat) : Sp := fun vs H Q E => ∃ (c wl th : Addr) (start : Str) (G : Hp) (posts ends ws : List Str) (lanes : List (Lane Str)) (t : PTree Str), vs = [.ref c, .ref wl, .ref th] ∧ Same G H ∧ CourseAt CC CN G c posts lanes start ends ∧ NetD posts lanes ∧ start ∈ posts ∧ (∀ z ∈ ends, z ∈ posts) ∧
  (StrL G wl ws ∨ StrT G wl ws) ∧ (∀ z ∈ ws, ∃ u, Used lanes start ends u ∧ u.1 = z) ∧ ws.length ≤ 100 ∧ ThingAt CP G th t ∧ t.depth < D ∧ t.depth ≤ 6 ∧ t.leaves ≤ 20 ∧ (readT t 0).atoms.length ≤ 5 ∧
  (∀ (Lr : Addr) (rs : List V) (H' : Hp), Same H H' → H Lr = none → H' Lr = some (.lst rs) → Seq2 (RunF H H' Lr lanes (readT t 0).mach start ends) rs ws → rs.Nodup → Q (.ref Lr) H') ∧
  (∀ (pre post : List Str) (w : Str) (d : Addr) (H' : Hp), ws = pre ++ w :: post → (∀ z ∈ pre, ∃ R, Avoid lanes (readT t 0).mach start ends z R) → (¬ ∃ R, Avoid lanes (readT t 0).mach start ends w R) → Same H H' → H d = none → H' d = some (.xd [("name", .str w)]) → E (.ref CB) (some d) H')
section
variable {P : Program} {w : World} {K : PySem.W.Frag} {mg : Str → Option Value} {base : Heap} {CC CN CP CM CB : Addr} {D : Nat}
abbrev st_suite : Stmt := topS 70
abbrev N_suite : List Str := ["course", "wanted", "pattern", "machine", "runs", "lane", "run"]
theorem sc_suite : FnScope N_suite ["course", "wanted", "pattern"] (defScope st_suite) := ⟨rfl, rfl, rfl, by decide +kernel, rfl, by decide +kernel, by decide +kernel⟩
theorem ok_suite (T : Top K mg) (B : BrC K mg CB) {f : Addr} {fd : FuncData} (F : L2.Fun K "suite" "suite" st_suite f fd) (c_machine_of : Cal P w K mg base (D + 5) "machine_of" (spMachOf CP CM D)) (c_check_used : Cal P w K mg base 6 "check_used" (spCUsed K CC CN)) (c_shortest_run : Cal P w K mg base 3 "shortest_run" (spShort CC CN CM)) : FnOk P w K mg base (L2.CX P w) (D + 8) f fd ["course", "wanted", "pattern"] (spSuite CC CN CP CB D) := by
  obtain ⟨f1, fd1, FB, hini, hty⟩ := B.ini
  have F1 := ok_Brought_init (P := P) (w := w) (base := base) B FB
  have hbn : Binds K fd1 ["self", "name"] [] := L2.Fun.binds FB fun _ _ _ _ _ _ us hl => match us, hl with | [_, _], _ => rfl
  refine F.okX sc_suite (fun vs H Q E h => ?_) (fun cdv A outer s H vs Q E hr h => ?_)
  · obtain ⟨c, wl, th, start, G, posts, ends, ws, lanes, t, rfl, _⟩ := h
    rfl
  · obtain ⟨c, wl, th, start, G, posts, ends, ws, lanes, t, rfl, sg, hc, hnet, hst, hen, hwl, hws, hw100, hth, hd1, hd2, hd3, hd4, k1, k2⟩ := h
    rcases hwl with hwl | hwl
    · refine ⟨_, (pss_cons (ps_set (i := 3) sc_suite.nd rfl (Or.inl rfl) (C8.pe_c c_machine_of hr (by omega) rfl (pa_cons (pv 2) pa_nil)))
  (pss_cons (ps_expr (C8.pe_c c_check_used hr (by omega) rfl (pa_cons (pv 0) (pa_cons (pv 1) pa_nil))))
  (pss_cons (ps_set (i := 4) sc_suite.nd rfl (Or.inl rfl) (pe_lst pa_nil))
  (pss_cons (ps_for (passes_of rfl) rfl (pi_list (pv 1)) (pg_name (i := 5) sc_suite.nd rfl (Or.inl rfl)) (pss_cons (ps_set (i := 6) sc_suite.nd rfl (Or.inl rfl) (C8.pe_c c_shortest_run hr (by omega) rfl (pa_cons (pv 0) (pa_cons (pe_tup (pa_cons (pv 5) pa_nil)) (pa_cons (pv 3) pa_nil)))))
  (pss_cons (ps_if (pt_cmpR op_isN (pv 6) pe_non (nomark _)) (pss_one (ps_raise rfl (takes_of rfl rfl rfl rfl) (pmk_oex B.oex hini hty F1 (hr.mono (by omega)) hbn .nil C8.pass0 rfl B.g (pa_cons (pv 5) pa_nil)))) pss_nil)
  (pss_one (ps_expr (pe_bm PySem.F.plainAttrs_list PySem.F.slot_list_append PySem.F.type_list_append mt_append (pv 4) (pa_cons (pv 6) pa_nil)))))))
  (pss_one (ps_ret (pv 4))))))), ?_⟩
      walk_at "r"
      refine ⟨th, t, G, rfl, sg, hth, hd1, hd2, hd3, fun qm G1 H1 g hm => ?_⟩
      walk_at "r"
      refine ⟨c, wl, start, G1, posts, ends, ws, lanes, rfl, g.gh, hc.mono g.gg, hnet, hen, .inl (.inl (.inl (g.at (g.gg _ _ hwl)))), hws, fun H2 s2 => ?_⟩
      have g := g.heap s2
      walk_at "r"
      refine h_lst rfl fun Lr H3 s3 hLr hLr0 => ?_
      have hL0 := g.freeN hLr0
      have hLG := g.free1 hLr0
      have g := g.heap s3
      walk_at "r"
      refine ⟨wl, rfl, ⟨_, .inl (.inl (g.at (g.gg _ _ hwl)))⟩, ?_⟩
      refine for_it (walk_list (xs := ws.map V.str)) (fun i σ H' => ∃ (G' : Hp) (rs : List V) (y5 y6 : Option V), Grow no G H G' H' ∧ Same G1 G' ∧ G' Lr = none ∧ H' Lr = some (.lst rs) ∧ Seq2 (RunF H H' Lr lanes (readT t 0).mach start ends) rs (ws.take i) ∧ rs.Nodup ∧
        σ = [some (.ref c), some (.ref wl), some (.ref th), some (.ref qm), some (.ref Lr), y5, y6])
        ⟨G1, [], _, _, g, Same.refl _, hLG, hLr, .nil, List.nodup_nil, rfl⟩ (fun i σ H' _ ⟨_, _, _, _, g, _⟩ => .inl (.inl (g.at (g.gg _ _ hwl)))) ?_ ?_
      · clear g hLG hLr hLr0
        rintro i v σ H4' H4 hi ⟨G4, rs, y5, y6, g, sG, hLG, hLr, hrs, hnd, rfl⟩ ⟨rfl, hx⟩
        rw [List.getElem?_map] at hx
        obtain ⟨wn, hwn, rfl⟩ := Option.map_eq_some_iff.mp hx
        have hil : i < ws.length := (List.getElem?_eq_some_iff.mp hwn).1
        walk_at "r"
        refine e_tup g.gh rfl fun wt G5 H5 e5 hwt _ => ?_
        have g5 := g.trans e5
        have hLG5 := e5.new _ hLG (by rw [hLr]; intro z; cases z)
        have hLr5 := e5.same _ _ hLr
        walk_at "r"
        refine ⟨c, wt, qm, start, wn, G5, posts, ends, lanes, readT t 0, rfl, g5.gh, hc.mono g5.gg, hnet, hwt, hm.mono (sG.trans e5.gg), hd4, hst, hen, fun hno H6 s6 => ?_, fun l R H6 hav s6 hl hl0 hRl => ?_⟩
        · have g6 := g5.heap s6
          walk_at "r"
          refine ⟨rfl, ?_⟩
          walk_at "r"
          refine r_yes rfl ?_
          refine ⟨_, rfl, Nat.le_of_ble_eq_true rfl, fun x hx => ⟨x, wn, rfl, upd_same, fun d hd hne => ⟨rfl, d, [("name", .str wn)], upd_same, ?_, ?_, ?_⟩⟩⟩
          · rw [upd_ne hne]; exact upd_same
          · rw [upd_ne hne] at hd; exact hd
          · rw [upd_ne hne] at hd
            have hpre : ws = ws.take i ++ wn :: ws.drop (i + 1) := by
              have := (List.take_append_drop i ws).symm
              rw [List.drop_eq_getElem_cons hil, (List.getElem?_eq_some_iff.mp hwn).2] at this
              exact this
            refine k2 (ws.take i) (ws.drop (i + 1)) wn d _ hpre (fun z hz => ?_) hno (fun r u e => ?_) (g6.freeN hd) upd_same
            · obtain ⟨k, hk⟩ := List.mem_iff_getElem?.mp hz
              obtain ⟨v, hv, l, R, _, _, _, _, _, hR⟩ := hrs.at' hk
              exact ⟨R, hR⟩
            · have h6 := g6.same _ _ e
              have hrd : r ≠ d := fun z => by rw [z, hd] at h6; cases h6
              have hrx : r ≠ x := fun z => by rw [z, hx] at h6; cases h6
              rw [upd_ne hrd, del_ne hrx, upd_ne hrx, upd_ne hrd, upd_ne hrx]
              exact h6
        · have g6 := g5.heap s6
          walk_at "r"
          refine ⟨rfl, ?_⟩
          walk_at "r"
          refine r_no rfl ?_
          walk_at "r"
          refine r_tyL (s6 _ _ hLr5) ?_
          walk_at "r"
          have hrl : rs.length ≤ 100 := by rw [hrs.1, List.length_take]; omega
          refine r_app (s6 _ _ hLr5) (small_lt (by omega)) ?_
          have hlL : l ≠ Lr := fun z => by rw [z, hLr5] at hl0; cases hl0
          have s46 : Same H4 H6 := e5.same.trans s6
          refine ⟨G5, rs ++ [.ref l], _, _, g6.mut (o := .lst (rs ++ [.ref l])) hLG5 (.inl hL0), sG.trans e5.gg, hLG5, upd_same, ?_, ?_, rfl⟩
          · rw [take_snoc hwn]
            refine Seq2.snoc (hrs.mono fun v w h => ?_) ⟨l, R, rfl, hlL, g5.freeN hl0, (upd_ne hlL).trans hl, hRl, hav⟩
            obtain ⟨l', R', e1, e2, e3, e4, e6, e7⟩ := h
            exact ⟨l', R', e1, e2, e3, (upd_ne e2).trans (s46 _ _ e4), e6, e7⟩
          · rw [List.nodup_append]
            refine ⟨hnd, by simp, fun a ha b hb e => ?_⟩
            rw [List.mem_singleton.mp hb] at e
            subst e
            obtain ⟨k, hk⟩ := List.mem_iff_getElem?.mp ha
            obtain ⟨w', hw', l', R', e1, e2, e3, e4, _⟩ := hrs.at hk
            cases e1
            have := e5.same _ _ e4
            rw [this] at hl0; cases hl0
      · rintro σ H4 ⟨G4, rs, y5, y6, g, sG, hLG, hLr, hrs, hnd, rfl⟩
        rw [List.length_map, List.take_length] at hrs
        walk_at "r"
        exact k1 Lr rs H4 g.same hL0 hLr hrs hnd
    · refine ⟨_, (pss_cons (ps_set (i := 3) sc_suite.nd rfl (Or.inl rfl) (C8.pe_c c_machine_of hr (by omega) rfl (pa_cons (pv 2) pa_nil)))
  (pss_cons (ps_expr (C8.pe_c c_check_used hr (by omega) rfl (pa_cons (pv 0) (pa_cons (pv 1) pa_nil))))
  (pss_cons (ps_set (i := 4) sc_suite.nd rfl (Or.inl rfl) (pe_lst pa_nil))
  (pss_cons (ps_for (passes_of rfl) rfl (pi_tup (pv 1)) (pg_name (i := 5) sc_suite.nd rfl (Or.inl rfl)) (pss_cons (ps_set (i := 6) sc_suite.nd rfl (Or.inl rfl) (C8.pe_c c_shortest_run hr (by omega) rfl (pa_cons (pv 0) (pa_cons (pe_tup (pa_cons (pv 5) pa_nil)) (pa_cons (pv 3) pa_nil)))))
  (pss_cons (ps_if (pt_cmpR op_isN (pv 6) pe_non (nomark _)) (pss_one (ps_raise rfl (takes_of rfl rfl rfl rfl) (pmk_oex B.oex hini hty F1 (hr.mono (by omega)) hbn .nil C8.pass0 rfl B.g (pa_cons (pv 5) pa_nil)))) pss_nil)
  (pss_one (ps_expr (pe_bm PySem.F.plainAttrs_list PySem.F.slot_list_append PySem.F.type_list_append mt_append (pv 4) (pa_cons (pv 6) pa_nil)))))))
  (pss_one (ps_ret (pv 4))))))), ?_⟩
      walk_at "r"
      refine ⟨th, t, G, rfl, sg, hth, hd1, hd2, hd3, fun qm G1 H1 g hm => ?_⟩
      walk_at "r"
      refine ⟨c, wl, start, G1, posts, ends, ws, lanes, rfl, g.gh, hc.mono g.gg, hnet, hen, .inr (.inl (.inl (g.at (g.gg _ _ hwl)))), hws, fun H2 s2 => ?_⟩
      have g := g.heap s2
      walk_at "r"
      refine h_lst rfl fun Lr H3 s3 hLr hLr0 => ?_
      have hL0 := g.freeN hLr0
      have hLG := g.free1 hLr0
      have g := g.heap s3
      walk_at "r"
      refine ⟨wl, rfl, ⟨_, .inl (.inl (g.at (g.gg _ _ hwl)))⟩, ?_⟩
      refine for_it (walk_tup (xs := ws.map V.str)) (fun i σ H' => ∃ (G' : Hp) (rs : List V) (y5 y6 : Option V), Grow no G H G' H' ∧ Same G1 G' ∧ G' Lr = none ∧ H' Lr = some (.lst rs) ∧ Seq2 (RunF H H' Lr lanes (readT t 0).mach start ends) rs (ws.take i) ∧ rs.Nodup ∧
        σ = [some (.ref c), some (.ref wl), some (.ref th), some (.ref qm), some (.ref Lr), y5, y6])
        ⟨G1, [], _, _, g, Same.refl _, hLG, hLr, .nil, List.nodup_nil, rfl⟩ (fun i σ H' _ ⟨_, _, _, _, g, _⟩ => .inl (.inl (g.at (g.gg _ _ hwl)))) ?_ ?_
      · clear g hLG hLr hLr0
        rintro i v σ H4' H4 hi ⟨G4, rs, y5, y6, g, sG, hLG, hLr, hrs, hnd, rfl⟩ ⟨rfl, hx⟩
        rw [List.getElem?_map] at hx
        obtain ⟨wn, hwn, rfl⟩ := Option.map_eq_some_iff.mp hx
        have hil : i < ws.length := (List.getElem?_eq_some_iff.mp hwn).1
        walk_at "r"
        refine e_tup g.gh rfl fun wt G5 H5 e5 hwt _ => ?_
        have g5 := g.trans e5
        have hLG5 := e5.new _ hLG (by rw [hLr]; intro z; cases z)
        have hLr5 := e5.same _ _ hLr
        walk_at "r"
        refine ⟨c, wt, qm, start, wn, G5, posts, ends, lanes, readT t 0, rfl, g5.gh, hc.mono g5.gg, hnet, hwt, hm.mono (sG.trans e5.gg), hd4, hst, hen, fun hno H6 s6 => ?_, fun l R H6 hav s6 hl hl0 hRl => ?_⟩
        · have g6 := g5.heap s6
          walk_at "r"
          refine ⟨rfl, ?_⟩
          walk_at "r"
          refine r_yes rfl ?_
          refine ⟨_, rfl, Nat.le_of_ble_eq_true rfl, fun x hx => ⟨x, wn, rfl, upd_same, fun d hd hne => ⟨rfl, d, [("name", .str wn)], upd_same, ?_, ?_, ?_⟩⟩⟩
          · rw [upd_ne hne]; exact upd_same
          · rw [upd_ne hne] at hd; exact hd
          · rw [upd_ne hne] at hd
            have hpre : ws = ws.take i ++ wn :: ws.drop (i + 1) := by
              have := (List.take_append_drop i ws).symm
              rw [List.drop_eq_getElem_cons hil, (List.getElem?_eq_some_iff.mp hwn).2] at this
              exact this
            refine k2 (ws.take i) (ws.drop (i + 1)) wn d _ hpre (fun z hz => ?_) hno (fun r u e => ?_) (g6.freeN hd) upd_same
            · obtain ⟨k, hk⟩ := List.mem_iff_getElem?.mp hz
              obtain ⟨v, hv, l, R, _, _, _, _, _, hR⟩ := hrs.at' hk
              exact ⟨R, hR⟩
            · have h6 := g6.same _ _ e
              have hrd : r ≠ d := fun z => by rw [z, hd] at h6; cases h6
              have hrx : r ≠ x := fun z => by rw [z, hx] at h6; cases h6
              rw [upd_ne hrd, del_ne hrx, upd_ne hrx, upd_ne hrd, upd_ne hrx]
              exact h6
        · have g6 := g5.heap s6
          walk_at "r"
          refine ⟨rfl, ?_⟩
          walk_at "r"
          refine r_no rfl ?_
          walk_at "r"
          refine r_tyL (s6 _ _ hLr5) ?_
          walk_at "r"
          have hrl : rs.length ≤ 100 := by rw [hrs.1, List.length_take]; omega
          refine r_app (s6 _ _ hLr5) (small_lt (by omega)) ?_
          have hlL : l ≠ Lr := fun z => by rw [z, hLr5] at hl0; cases hl0
          have s46 : Same H4 H6 := e5.same.trans s6
          refine ⟨G5, rs ++ [.ref l], _, _, g6.mut (o := .lst (rs ++ [.ref l])) hLG5 (.inl hL0), sG.trans e5.gg, hLG5, upd_same, ?_, ?_, rfl⟩
          · rw [take_snoc hwn]
            refine Seq2.snoc (hrs.mono fun v w h => ?_) ⟨l, R, rfl, hlL, g5.freeN hl0, (upd_ne hlL).trans hl, hRl, hav⟩
            obtain ⟨l', R', e1, e2, e3, e4, e6, e7⟩ := h
            exact ⟨l', R', e1, e2, e3, (upd_ne e2).trans (s46 _ _ e4), e6, e7⟩
          · rw [List.nodup_append]
            refine ⟨hnd, by simp, fun a ha b hb e => ?_⟩
            rw [List.mem_singleton.mp hb] at e
            subst e
            obtain ⟨k, hk⟩ := List.mem_iff_getElem?.mp ha
            obtain ⟨w', hw', l', R', e1, e2, e3, e4, _⟩ := hrs.at hk
            cases e1
            have := e5.same _ _ e4
            rw [this] at hl0; cases hl0
      · rintro σ H4 ⟨G4, rs, y5, y6, g, sG, hLG, hLr, hrs, hnd, rfl⟩
        rw [List.length_map, List.take_length] at hrs
        walk_at "r"
        exact k1 Lr rs H4 g.same hL0 hLr hrs hnd
end
end K48
/-! ## KX5 -/
set_option maxHeartbeats 2000000
namespace K48
open PySem PySem.Spec PyProof.Rows L2 LamX
/-! ### a def that gets two values and a lambda: g(a, b, lambda: e); nothing is raised -/
/-- how the lambda, at f, is called in g's body (slot 2) -/
abbrev Act3 (X : Cx) (Ng : List Str) (g : Str) (sg : Scope) (ga : Addr) (cdg : Value) (n q : Str) (s : Shared) (H : Hp) (f c' : Addr) (tl : Hp → VK → Prop) : Prop :=
  ∀ p1 p2 : Pos, PE (cxOf C8.CX0 X.prog X.w X.K X.mg X.base Ng g sg ga cdg X.A X.stack s H C8.E0).nox (.Call (.Name n p1) [] [] p2) (fun σZ HZ Q => σZ[2]? = some (some (.ref f)) ∧ HZ c' = some (CodeO c' q) ∧ tl HZ Q)
/-- g's promise, the lambda's reading tl told -/
def Gives3 (X : Cx) (Ng : List Str) (g : Str) (sg : Scope) (ga : Addr) (cdg : Value) (bg : List Stmt) (n q : Str) (k : Nat) (sp : V → V → (Hp → VK → Prop) → Hp → VK → Prop) : Prop :=
  ∀ (f c' : Addr) (s : Shared) (H : Hp) (v1 v2 : V) (Q : VK) (tl : Hp → VK → Prop), Room k (X.A.deeper (envOfC g sg s.heap.objs.size ga cdg)) → Act3 X Ng g sg ga cdg n q s H f c' tl → H c' = some (CodeO c' q) → sp v1 v2 tl H Q →
    ∃ t, PSs (cxOf C8.CX0 X.prog X.w X.K X.mg X.base Ng g sg ga cdg X.A X.stack s H C8.E0).nox bg t ∧ t { nx := fun _ H' => Q .non H', rt := Q } (L2.start Ng [v1, v2, .ref f]) H
def tLam3 (T : List (Addr × Str)) (sp : V → V → (Hp → VK → Prop) → Hp → VK → Prop) (ta tb t : TE) : TE := fun σ H Q => ta σ H fun v1 H1 => tb σ H1 fun v2 H2 =>
  Tabs T H2 ∧ ∀ H3 : Hp, ExtN H2 H3 → Tabs T H3 → sp v1 v2 (fun H' Q' => t σ H' Q') H3 Q
section
variable {X : Cx}
theorem pe_lam3 {T : List (Addr × Str)} {sp : V → V → (Hp → VK → Prop) → Hp → VK → Prop} {x n : Str} {ga c tab : Addr} {k : Nat} {pg : Arguments} {bg : List Stmt} {sg : Scope} {dV kV doc pm cdv ct oc : Value} {an od : Option Addr} {osl : Array (Option Value)} {Ng ps : List Str}
    {e1 e2 : Expr} {ta tb t : TE} {params : Arguments} {body : Expr} {scope : Scope} {p lpos pos : Pos} (hg : Gl X x) (hm : X.mg x = some (.ref ga)) (hk : PySem.W.keepIn X.K (.ref ga) = true)
    (lk : X.K.lookup ga = some ⟨oc, od, .func (PySem.W.fnOf x x pg bg sg dV kV doc pm an cdv ct), osl⟩) (hcg : PySem.W.codeIn X.K cdv x = true) (hb : L2.Binds X.K (PySem.W.fnOf x x pg bg sg dV kV doc pm an cdv ct) ps [])
    (hp3 : ps.length = 3) (Sg : FnScope Ng ps sg) (hNg : Ng[2]? = some n) (hva : Vis sg n) (hG : Gives3 X Ng x sg ga cdv bg n (X.env.qual ++ "<lambda>") k sp) (h1 : PE X e1 ta) (h2 : PE X e2 tb)
    (TB : TabB X.base X.mg c tab) (hcode : X.env.code = .ref c) (hmT : (tab, X.env.qual ++ "<lambda>") ∈ T) (hu : ∀ p ∈ T, p.1 = tab → p.2 = X.env.qual ++ "<lambda>") (hr : Room (k + 1) X.A) (hk1 : 1 ≤ k) (L : LamS X.env.scope scope) (hdef : defaultsOf params X.env = ([], []))
    (hbind : ∀ (q : Str) (cl : List (Str × Addr)) (pm cv ctv : Value), bindArgs (PySem.W.kla_fn "<lambda>" q params body scope cl pm cv ctv) ⟨[], []⟩ = pure [])
    (hbody : ∀ (A : Around) (outer : List Env) (s : Shared) (H : Hp) (f c' : Addr), Room (k - 1) (A.deeper (lamEnv X scope s.heap.objs.size f c')) → PE (lamCx X A outer s H C8.E0 scope f c') body t)
    (hdb : (x == ("__debug__" : Str)) = false := by decide) (hd : (n == ("__debug__" : Str)) = false := by decide) (hcd : (n == ("__classdict__" : Str)) = false := by decide)
    (he : starEach [e1, e2, .Lambda params body scope lpos] X.env = (false, eval e1 X.env) :: (false, eval e2 X.env) :: (false, eval (.Lambda params body scope lpos) X.env) :: starEach [] X.env := by rfl)
    (he1 : starEach [e1, e2, .Lambda params body scope lpos] X.env = (false, eval e1 X.env) :: starEach [e2, .Lambda params body scope lpos] X.env := by rfl)
    (hpl : (backTo pos (starEach [e2, .Lambda params body scope lpos] X.env)).any (·.1) = false := by rfl) :
    PE X (.Call (.Name x p) [e1, e2, .Lambda params body scope lpos] [] pos) (tLam3 T sp ta tb t) := by
  refine ⟨fun pins s σ H Q I h => wpAny_Call_Name_kw (ld_glob I hg hm (PySem.W.callWith_K (h₀ := X.base) I.ok.mod.kin hk ?_ he1 hpl) hdb)⟩
  rw [he]
  show wpAny _ _ (spliced ((false, eval e1 X.env) :: (false, eval e2 X.env) :: (false, eval (.Lambda params body scope lpos) X.env) :: backTo pos (starEach [] X.env))) _ _ s
  refine Calls.spliced_cons (thn (h1.run pins s σ H _ I h) ?_)
  rintro u1 s1 ⟨v1, H1, I1, r1, h⟩
  refine Calls.spliced_cons (thn (h2.run pins s1 σ H1 _ I1 h) ?_)
  rintro u2 s2 ⟨v2, H2, I2, r2, hT, h⟩
  refine Calls.spliced_cons (lam_make2 I2 TB hcode hmT hu hT hdef (L.has I.ok) ?_)
  intro f c' pm' ctv H3 s3 I3 eN T3 hf hfn hfr hco
  refine Calls.spliced_nil ⟨I3.kIn, wpAny_call (codeAny_mono (R := CR C8.CX0 X.stack X.prog X.w H3 s3 Q C8.E0) ?_ ?_)⟩
  · refine run_ofS (N := Ng) (ps := ps) (us := [u1, u2, .ref f]) (vs := [v1, v2, .ref f]) lk hcg Sg hr I3.env0 (hb s3 _ I3.kIn (by rw [hp3]; rfl)) (.cons r1 (.cons r2 (.cons rfl .nil))) (by rw [hp3]; rfl) fun hr' => ?_
    have hr2 : Room (k - 1 + 1) (X.A.deeper (envOfC x sg s3.heap.objs.size ga cdv)) := hr'.mono (by omega)
    have act : Act3 X Ng x sg ga cdv n (X.env.qual ++ "<lambda>") s3 H3 f c' (fun H' Q' => t σ H' Q') := fun p1 p2 =>
      pe_act (i := 2) (pn := []) (xe := fun _ _ => False) (W := fun _ _ _ _ => False) I3 L hf hfn hfr (hbind _ _ _ _ _) LamX.takes0 (fun _ _ _ _ z => z) hr2 (fun A outer s H hr3 => hbody A outer s H f c' hr3) hNg hva hd hcd
    obtain ⟨t', ht, hq⟩ := hG f c' s3 H3 v1 v2 Q _ hr' act hco (h H3 eN T3)
    exact ⟨t', ht.nox, hq⟩
  · rintro r s4 hq
    cases r with
    | error e => exact False.elim hq
    | ok fl =>
      cases fl with
      | ret u => exact I3.after hq
      | next => exact False.elim hq
      | brk => exact False.elim hq
      | cont => exact False.elim hq
end
end K48
/-! ## KD33 -/
set_option maxHeartbeats 4000000
namespace K48
open PySem L2
local macro_rules | `(tactic| walk_at "r1") => `(tactic| first
  | with_reducible refine r_seq ?_ | with_reducible refine r_asg ?_ | with_reducible refine r_ret ?_ | with_reducible refine r_drop ?_ | with_reducible refine r_if ?_ | with_reducible refine r_next ?_
  | with_reducible refine r_name ?_ | with_reducible refine r_c ?_ | ((with_reducible show tVar _ _ _ _); refine r_var rfl ?_) | with_reducible refine r_op ?_ | with_reducible refine r_un ?_
  | with_reducible refine r_i0 ?_ | with_reducible refine r_test ?_ | with_reducible refine r_tB ?_ | with_reducible refine r_bl ?_ | with_reducible refine r_and ?_ | with_reducible refine r_or ?_
  | with_reducible refine r_not ?_ | with_reducible refine r_ifE ?_ | with_reducible refine r_cons ?_ | with_reducible refine r_nil ?_ | with_reducible refine r_cb ?_ | with_reducible refine r_call ?_
  | with_reducible refine r_lstG ?_ | with_reducible refine r_tupG ?_ | with_reducible refine r_sl ?_ | with_reducible refine r_noP ?_ | with_reducible refine r_part ?_ | with_reducible refine r_exI ?_
  | with_reducible refine r_tr ?_ | with_reducible refine r_fa ?_ | with_reducible refine r_for ?_ | with_reducible refine r_iList ?_ | with_reducible refine r_iTup ?_ | with_reducible refine r_iStr ?_
  | with_reducible refine r_iR1 ?_ | with_reducible refine r_iR2 ?_ | with_reducible refine r_lc ?_ | with_reducible refine r_nt ?_ | with_reducible refine r_nf ?_ | with_reducible refine r_orV ?_ | with_reducible refine r_andV ?_ | with_reducible refine r_yesT ?_ | with_reducible refine r_gsub ?_ | with_reducible refine r_gcons ?_ | with_reducible refine r_gnil ?_ | with_reducible refine r_bm ?_ | with_reducible refine r_bm0 ?_
  | with_reducible refine r_fldG ?_ | with_reducible refine r_sfldG ?_ | with_reducible refine r_meth ?_ | with_reducible refine r_make ?_ | with_reducible refine r_dget ?_ | with_reducible refine r_din ?_ | with_reducible refine r_dnin ?_ | with_reducible refine r_dput ?_
  | with_reducible refine r_dgetN ?_ | with_reducible refine r_dinN ?_ | with_reducible refine r_dninN ?_ | with_reducible refine r_dputN ?_ | ((with_reducible show tAug _ _ _ _ _ _); refine r_aug rfl ?_) | with_reducible refine r_par ?_ | with_reducible refine r_neg ?_ | with_reducible refine r_iEnum ?_ | with_reducible refine r_iZip ?_ | with_reducible refine r_iZipA ?_)
local macro_rules | `(tactic| walk_at "r") => `(tactic| repeat walk_at "r1")

open LamX (ExtN Tabs TabS CodeO)
/-! ### what is told stays where all but tables stays -/
theorem xn {G G' : Hp} (s : ExtN G G') {a : Addr} {o : HO} (h : G a = some o) (n : ∀ ps, o ≠ .tbl ps := by intro ps z; cases z) : G' a = some o := s a o h n
section
variable {G G' : Hp} (s : ExtN G G')
include s
theorem RowV.ext {v : V} {e : Lane Str} (h : RowV G v e) : RowV G' v e := by
  obtain ⟨a, e1, h⟩ := h
  exact ⟨a, e1, xn s h⟩
theorem PartsAt.ext {p : Addr} {posts : List Str} {lanes : List (Lane Str)} (h : PartsAt G p posts lanes) : PartsAt G' p posts lanes := by
  obtain ⟨a, b, vs, h1, h2, h3, h4⟩ := h.ex
  exact ⟨a, b, vs, xn s h1, xn s h2, xn s h3, h4.mono fun _ _ => RowV.ext s⟩
theorem AtomL.ext {v : V} {x : Bool × List Str} (h : AtomL G v x) : AtomL G' v x := by
  obtain ⟨a, c, e, h1, h2⟩ := h
  exact ⟨a, c, e, xn s h1, xn s h2⟩
theorem PairV.ext {v : V} {x : Nat × Nat} (h : PairV G v x) : PairV G' v x := by
  obtain ⟨t, e, h⟩ := h
  exact ⟨t, e, xn s h⟩
theorem MachL.ext {a : Addr} {m : ML Str} (h : MachL G a m) : MachL G' a m := by
  obtain ⟨x, f, l, ps, vs, ws, h1, h2, h3, h4, h5, h6, h7⟩ := h.ex
  exact ⟨x, f, l, ps, vs, ws, xn s h1, xn s h2, h3.mono fun _ _ => AtomL.ext s, xn s h4, xn s h5, xn s h6, h7.mono fun _ _ => PairV.ext s⟩
theorem EndV.ext {v : Key × V} {x : Lane Str} (h : EndV G v x) : EndV G' v x := by
  obtain ⟨h1, t, e, h⟩ := h
  exact ⟨h1, t, e, xn s h⟩
theorem NetAt.ext {CN : Addr} {a : Addr} {posts : List Str} {lanes : List (Lane Str)} (h : NetAt CN G a posts lanes) : NetAt CN G' a posts lanes := by
  obtain ⟨dx, fs, o, d, kvs, h1, h2, h3, h4, h5, h6, h7⟩ := h.ex
  exact ⟨dx, fs, o, d, kvs, xn s h1, h2, h3, h4, xn s h5, xn s h6, h7.mono fun _ _ => EndV.ext s⟩
theorem CourseAt.ext {CC CN : Addr} {c : Addr} {posts : List Str} {lanes : List (Lane Str)} {start : Str} {ends : List Str} (h : CourseAt CC CN G c posts lanes start ends) : CourseAt CC CN G' c posts lanes start ends := by
  obtain ⟨dx, fs, b, t, h1, h2, h3, h4, h5, h6⟩ := h.ex
  exact ⟨dx, fs, b, t, xn s h1, h2, h3, h4, h5.ext s, xn s h6⟩
theorem NamesAt.ext {b : Bool} {a : Addr} {ns : List Str} (h : NamesAt G b a ns) : NamesAt G' b a ns := by
  cases b
  · exact xn (o := .tup (ns.map V.str)) s h
  · exact xn (o := .lst (ns.map V.str)) s h
theorem TreeAt.ext {b : Bool} {t : PTree Str} : ∀ {v : V}, TreeAt G b t v → TreeAt G' b t v := by
  induction t with
  | any ns => rintro v ⟨a, c, e, h1, h2⟩; exact ⟨a, c, e, xn s h1, h2.ext s⟩
  | non ns => rintro v ⟨a, c, e, h1, h2⟩; exact ⟨a, c, e, xn s h1, h2.ext s⟩
  | rep t ih => rintro v ⟨a, x, e, h1, h2⟩; exact ⟨a, x, e, xn s h1, ih h2⟩
  | opt t ih => rintro v ⟨a, x, e, h1, h2⟩; exact ⟨a, x, e, xn s h1, ih h2⟩
  | either t u ih1 ih2 => rintro v ⟨a, x, y, e, h1, h2, h3⟩; exact ⟨a, x, y, e, xn s h1, ih1 h2, ih2 h3⟩
  | join t u ih1 ih2 => rintro v ⟨a, x, y, e, h1, h2, h3⟩; exact ⟨a, x, y, e, xn s h1, ih1 h2, ih2 h3⟩
theorem PatAt.ext {CP : Addr} {a : Addr} {t : PTree Str} (h : PatAt CP G a t) : PatAt CP G' a t := by
  obtain ⟨dx, fs, v, h1, h2, h3⟩ := h.ex
  exact ⟨dx, fs, v, xn s h1, h2, h3.ext s⟩
theorem ThingAt.ext {CP : Addr} {a : Addr} {t : PTree Str} (h : ThingAt CP G a t) : ThingAt CP G' a t := by
  cases h with
  | pat h => exact .pat (h.ext s)
  | row h h0 hn => exact .row (h.imp (fun z => xn s z) (fun z => xn s z)) h0 hn
theorem seqL_ext {K : PySem.W.Frag} {a : Addr} {xs : List V} (h : SqL K G a xs) : SqL K G' a xs := by
  rcases h with (h | ⟨o, h⟩) | h
  · exact .inl (.inl (xn s h))
  · exact .inl (.inr ⟨o, xn s h⟩)
  · exact .inr h
end
/-- a ghost without its tables -/
def noT (G : Hp) : Hp := fun a => match G a with
  | some (.tbl _) => none
  | o => o
theorem noT_ext (G : Hp) : ExtN G (noT G) := fun a o h n => by
  show (match G a with | some (.tbl _) => none | o => o) = some o
  rw [h]
  cases o with
  | tbl ps => exact absurd rfl (n ps)
  | _ => rfl
theorem noT_of {G : Hp} {a : Addr} {o : HO} (h : noT G a = some o) : G a = some o ∧ ∀ ps, o ≠ .tbl ps := by
  have h : (match G a with | some (.tbl _) => none | o => o) = some o := h
  cases e : G a with
  | none => rw [e] at h; cases h
  | some u =>
    rw [e] at h
    cases u with
    | tbl ps => cases h
    | _ => cases h; exact ⟨rfl, fun ps z => by cases z⟩
theorem noT_none {G : Hp} {a : Addr} (h : G a = none) : noT G a = none := by
  show (match G a with | some (.tbl _) => none | o => o) = none
  rw [h]
theorem noT_same {G H H1 : Hp} (s : Same G H) (e : ExtN H H1) : Same (noT G) H1 := fun a o h => by
  obtain ⟨h1, h2⟩ := noT_of h
  exact e a o (s _ _ h1) h2
/-- tables where what m tells was changed: no table, no code object -/
theorem tabs_off {T : List (Addr × Str)} {m : Addr → Prop} {H H' : Hp} (t : Tabs T H) (s : Off m H H') (hm : ∀ b, m b → H b = none ∨ ∃ xs, H b = some (.lst xs)) : Tabs T H' := fun p hp => by
  obtain ⟨ps, h1, h2, h3⟩ := t p hp
  have key : ∀ b o, H b = some o → (∀ xs, o ≠ .lst xs) → H' b = some o := fun b o e n => s b o (fun z => by
    rcases hm b z with q | ⟨xs, q⟩
    · rw [e] at q; cases q
    · rw [e] at q; exact n xs (Option.some.inj q)) e
  refine ⟨ps, key _ _ h1 (fun xs z => by cases z), h2, fun pos cv hc => ?_⟩
  obtain ⟨c, e1, e2⟩ := h3 pos cv hc
  refine ⟨c, e1, key _ _ e2 fun xs z => ?_⟩
  unfold CodeO at z
  cases z
end K48
/-! ## KD34 -/
set_option maxHeartbeats 4000000
namespace K48
open PySem L2
local macro_rules | `(tactic| walk_at "r1") => `(tactic| first
  | with_reducible refine r_seq ?_ | with_reducible refine r_asg ?_ | with_reducible refine r_ret ?_ | with_reducible refine r_drop ?_ | with_reducible refine r_if ?_ | with_reducible refine r_next ?_
  | with_reducible refine r_name ?_ | with_reducible refine r_c ?_ | ((with_reducible show tVar _ _ _ _); refine r_var rfl ?_) | with_reducible refine r_op ?_ | with_reducible refine r_un ?_
  | with_reducible refine r_i0 ?_ | with_reducible refine r_test ?_ | with_reducible refine r_tB ?_ | with_reducible refine r_bl ?_ | with_reducible refine r_and ?_ | with_reducible refine r_or ?_
  | with_reducible refine r_not ?_ | with_reducible refine r_ifE ?_ | with_reducible refine r_cons ?_ | with_reducible refine r_nil ?_ | with_reducible refine r_cb ?_ | with_reducible refine r_call ?_
  | with_reducible refine r_lstG ?_ | with_reducible refine r_tupG ?_ | with_reducible refine r_sl ?_ | with_reducible refine r_noP ?_ | with_reducible refine r_part ?_ | with_reducible refine r_exI ?_
  | with_reducible refine r_tr ?_ | with_reducible refine r_fa ?_ | with_reducible refine r_for ?_ | with_reducible refine r_iList ?_ | with_reducible refine r_iTup ?_ | with_reducible refine r_iStr ?_
  | with_reducible refine r_iR1 ?_ | with_reducible refine r_iR2 ?_ | with_reducible refine r_lc ?_ | with_reducible refine r_nt ?_ | with_reducible refine r_nf ?_ | with_reducible refine r_orV ?_ | with_reducible refine r_andV ?_ | with_reducible refine r_yesT ?_ | with_reducible refine r_gsub ?_ | with_reducible refine r_gcons ?_ | with_reducible refine r_gnil ?_ | with_reducible refine r_bm ?_ | with_reducible refine r_bm0 ?_
  | with_reducible refine r_fldG ?_ | with_reducible refine r_sfldG ?_ | with_reducible refine r_meth ?_ | with_reducible refine r_make ?_ | with_reducible refine r_dget ?_ | with_reducible refine r_din ?_ | with_reducible refine r_dnin ?_ | with_reducible refine r_dput ?_
  | with_reducible refine r_dgetN ?_ | with_reducible refine r_dinN ?_ | with_reducible refine r_dninN ?_ | with_reducible refine r_dputN ?_ | ((with_reducible show tAug _ _ _ _ _ _); refine r_aug rfl ?_) | with_reducible refine r_par ?_ | with_reducible refine r_neg ?_ | with_reducible refine r_iEnum ?_ | with_reducible refine r_iZip ?_ | with_reducible refine r_iZipA ?_)
local macro_rules | `(tactic| walk_at "r") => `(tactic| repeat walk_at "r1")

/-- a def that may raise, by its name -/
structure CalX (P : Program) (w : World) (K : PySem.W.Frag) (mg : Str → Option Value) (base : Heap) (k : Nat) (x : Str) (ps : List Str) (sp : Sp) : Prop where
  ex : ∃ (f : Addr) (fd : FuncData), FnOk P w K mg base (L2.CX P w) k f fd ps sp ∧ mg x = some (.ref f) ∧ PySem.W.keepIn K (.ref f) = true ∧ Binds K fd ps []
/-- what the error's class has besides -/
structure BrX (K : PySem.W.Frag) (CB : Addr) : Prop where
  xf : XfC K CB
  te : PySem.W.exmOne K (.ref CB) (.ref CB) = some true
def spTold (CC CN CP : Addr) (D : Nat) : Sp := fun vs H Q _ => ∃ (c wl th : Addr) (start : Str) (G : Hp) (posts ends ws : List Str) (lanes : List (Lane Str)) (t : PTree Str), vs = [.ref c, .ref wl, .ref th] ∧ Same G H ∧ CourseAt CC CN G c posts lanes start ends ∧ NetD posts lanes ∧ start ∈ posts ∧ (∀ z ∈ ends, z ∈ posts) ∧
  (StrL G wl ws ∨ StrT G wl ws) ∧ (∀ z ∈ ws, ∃ u, Used lanes start ends u ∧ u.1 = z) ∧ ws.length ≤ 100 ∧ ThingAt CP G th t ∧ t.depth < D ∧ t.depth ≤ 6 ∧ t.leaves ≤ 20 ∧ (readT t 0).atoms.length ≤ 5 ∧
  (∀ (r Lr : Addr) (rs : List V) (H' : Hp), Same H H' → H Lr = none → H r = none → H' r = some (.tup [.ref Lr, .non]) → H' Lr = some (.lst rs) → Seq2 (RunF H H' Lr lanes (readT t 0).mach start ends) rs ws → rs.Nodup → Q (.ref r) H') ∧
  (∀ (pre post : List Str) (w : Str) (r : Addr) (H' : Hp), ws = pre ++ w :: post → (∀ z ∈ pre, ∃ R, Avoid lanes (readT t 0).mach start ends z R) → (¬ ∃ R, Avoid lanes (readT t 0).mach start ends w R) → Same H H' → H r = none → H' r = some (.tup [.non, .str w]) → Q (.ref r) H')
section
variable {P : Program} {w : World} {K : PySem.W.Frag} {mg : Str → Option Value} {base : Heap} {CC CN CP CM CB : Addr} {D : Nat}
theorem cal_suite (T : Top K mg) (B : BrC K mg CB) (F : Dn K mg "suite" st_suite) (c_machine_of : Cal P w K mg base (D + 5) "machine_of" (spMachOf CP CM D)) (c_check_used : Cal P w K mg base 6 "check_used" (spCUsed K CC CN)) (c_shortest_run : Cal P w K mg base 3 "shortest_run" (spShort CC CN CM)) : CalX P w K mg base (D + 8) "suite" ["course", "wanted", "pattern"] (spSuite CC CN CP CB D) := by
  obtain ⟨f, fd, F1, hm⟩ := F.ex
  exact ⟨f, fd, ok_suite T B F1 c_machine_of c_check_used c_shortest_run, hm, F1.kp, L2.Fun.binds F1 fun _ _ _ _ _ _ us hl => match us, hl with | [_, _, _], _ => rfl⟩
theorem RunF.app {H0 H H1 : Hp} {Lr : Addr} {lanes : List (Lane Str)} {M : Mach Str} {start : Str} {ends : List Str} {v : V} {w : Str} (s : Same H H1) (h : RunF H0 H Lr lanes M start ends v w) : RunF H0 H1 Lr lanes M start ends v w := by
  obtain ⟨l, R, e1, e2, e3, e4, e5, e6⟩ := h
  exact ⟨l, R, e1, e2, e3, s _ _ e4, e5, e6⟩
abbrev st__law_told : Stmt := topS 99
abbrev N__law_told : List Str := ["_law_course_here", "_law_wanted", "_law_thing", "e"]
theorem sc__law_told : FnScope N__law_told ["_law_course_here", "_law_wanted", "_law_thing"] (defScope st__law_told) := ⟨rfl, rfl, rfl, by decide +kernel, rfl, by decide +kernel, by decide +kernel⟩
def tToldB (CC CN CP CB : Addr) (D : Nat) (W : WX) : TS := tRet (tTup (tCons (tCallS (spSuite CC CN CP CB D) (WE W) (tCons (tVar 0) (tCons (tVar 1) (tCons (tVar 2) tNil)))) (tCons (tC .non) tNil)))
def tToldS (CB : Addr) (a : Addr) (cls : Value) (d : Option Addr) : TS := tRet (tTup (tCons (tC .non) (tCons (tXf a cls d CB "name" (tVar 3)) tNil)))
theorem ok__law_told (T : Top K mg) (B : BrC K mg CB) (X : BrX K CB) (F : Dn K mg "_law_told" st__law_told) (c_suite : CalX P w K mg base (D + 8) "suite" ["course", "wanted", "pattern"] (spSuite CC CN CP CB D)) : Cal P w K mg base (D + 9) "_law_told" (spTold CC CN CP D) := by
  refine F.cal sc__law_told (fun vs H Q E h => ?_) (fun _ _ _ _ _ _ us hl => match us, hl with | [_, _, _], _ => rfl) (fun f cdv A outer s H vs Q E hr h => ?_)
  · obtain ⟨c, wl, th, start, G, posts, ends, ws, lanes, t, rfl, _⟩ := h
    rfl
  · obtain ⟨c, wl, th, start, G, posts, ends, ws, lanes, t, rfl, sg, hc, hnet, hst, hen, hwl, hws, hw100, hth, hd1, hd2, hd3, hd4, k1, k2⟩ := h
    obtain ⟨fs, fds, GS, hms, hks, hbs⟩ := c_suite.ex
    refine ⟨_, pss_one (ps_try_as (i := 3) (tb := tToldB CC CN CP CB D) (ts := tToldS CB) (Wout := fun _ _ _ _ => False) rfl rfl sc__law_told.nd rfl rfl ⟨rfl, by decide, .inl B.g⟩ L2.takes0
      (fun W pn xe tk _ => pss_one (ps_ret (pe_tup (pa_cons (by exact (pe_callS GS (hr.mono (by omega)) rfl hms hks hbs (fun σ => passAt tk σ) (by exact (pa_cons (pv 0) (pa_cons (pv 1) (pa_cons (pv 2) pa_nil)))))) (pa_cons pe_non pa_nil)))))
      (fun a oe cls d pn hz hf => pss_one (ps_ret (pe_tup (pa_cons pe_non (pa_cons (by exact (pe_xf X.xf B.no hz hf (pv 3))) pa_nil)))))), ?_⟩
    refine ⟨_, rfl, _, rfl, _, rfl, c, wl, th, start, G, posts, ends, ws, lanes, t, rfl, sg, hc, hnet, hst, hen, hwl, hws, hw100, hth, hd1, hd2, hd3, hd4, fun Lr rs H1 s1 hL0 hL hrs hnd => ?_, fun pre post wn d H1 e h1 h2 s1 hd0 hd => ?_⟩
    · refine ⟨sz_lit rfl, fun r hr0 => ?_⟩
      have s2 := same_upd (o := .tup [.ref Lr, .non]) hr0
      have hr1 : H r = none := by
        cases e : H r with
        | none => rfl
        | some u => rw [s1 _ _ e] at hr0; cases hr0
      exact k1 r Lr rs _ (s1.trans s2) hL0 hr1 upd_same (s2 _ _ hL) (hrs.mono fun _ _ => RunF.app s2) hnd
    · refine ⟨true, X.te, fun _ a ha => ?_, fun z => nomatch z⟩
      refine ⟨_, rfl, rfl, rfl, d, _, _, rfl, hd, rfl, sz_lit rfl, fun r hr0 => ?_⟩
      have hr1 : H r = none := by
        cases e : H r with
        | none => rfl
        | some u => rw [s1 _ _ e] at hr0; cases hr0
      exact k2 pre post wn r _ e h1 h2 (s1.trans (same_upd hr0)) hr1 upd_same
end
end K48
/-! ## KD35 -/
set_option maxHeartbeats 4000000
namespace K48
open PySem L2
local macro_rules | `(tactic| walk_at "r1") => `(tactic| first
  | with_reducible refine r_seq ?_ | with_reducible refine r_asg ?_ | with_reducible refine r_ret ?_ | with_reducible refine r_drop ?_ | with_reducible refine r_if ?_ | with_reducible refine r_next ?_
  | with_reducible refine r_name ?_ | with_reducible refine r_c ?_ | ((with_reducible show tVar _ _ _ _); refine r_var rfl ?_) | with_reducible refine r_op ?_ | with_reducible refine r_un ?_
  | with_reducible refine r_i0 ?_ | with_reducible refine r_test ?_ | with_reducible refine r_tB ?_ | with_reducible refine r_bl ?_ | with_reducible refine r_and ?_ | with_reducible refine r_or ?_
  | with_reducible refine r_not ?_ | with_reducible refine r_ifE ?_ | with_reducible refine r_cons ?_ | with_reducible refine r_nil ?_ | with_reducible refine r_cb ?_ | with_reducible refine r_call ?_
  | with_reducible refine r_lstG ?_ | with_reducible refine r_tupG ?_ | with_reducible refine r_sl ?_ | with_reducible refine r_noP ?_ | with_reducible refine r_part ?_ | with_reducible refine r_exI ?_
  | with_reducible refine r_tr ?_ | with_reducible refine r_fa ?_ | with_reducible refine r_for ?_ | with_reducible refine r_iList ?_ | with_reducible refine r_iTup ?_ | with_reducible refine r_iStr ?_
  | with_reducible refine r_iR1 ?_ | with_reducible refine r_iR2 ?_ | with_reducible refine r_lc ?_ | with_reducible refine r_nt ?_ | with_reducible refine r_nf ?_ | with_reducible refine r_orV ?_ | with_reducible refine r_andV ?_ | with_reducible refine r_yesT ?_ | with_reducible refine r_gsub ?_ | with_reducible refine r_gcons ?_ | with_reducible refine r_gnil ?_ | with_reducible refine r_bm ?_ | with_reducible refine r_bm0 ?_
  | with_reducible refine r_fldG ?_ | with_reducible refine r_sfldG ?_ | with_reducible refine r_meth ?_ | with_reducible refine r_make ?_ | with_reducible refine r_dget ?_ | with_reducible refine r_din ?_ | with_reducible refine r_dnin ?_ | with_reducible refine r_dput ?_
  | with_reducible refine r_dgetN ?_ | with_reducible refine r_dinN ?_ | with_reducible refine r_dninN ?_ | with_reducible refine r_dputN ?_ | ((with_reducible show tAug _ _ _ _ _ _); refine r_aug rfl ?_) | with_reducible refine r_par ?_ | with_reducible refine r_neg ?_ | with_reducible refine r_iEnum ?_ | with_reducible refine r_iZip ?_ | with_reducible refine r_iZipA ?_)
local macro_rules | `(tactic| walk_at "r") => `(tactic| repeat walk_at "r1")

open LamX (ExtN Tabs TabS CodeO)
/-- what _law_emptied promises: v1 the board, v2 the runs; tl: what a call of the third one gives -/
def spEmpt : V → V → (Hp → VK → Prop) → Hp → VK → Prop := fun v1 v2 tl H Q => ∃ (b q e wl a rl : Addr) (start : Str) (ends ws : List Str) (rs : List V) (m : ML Str) (G : Hp) (posts : List Str) (lanes : List (Lane Str)),
  v1 = .ref b ∧ v2 = .ref rl ∧ Same G H ∧ G b = some (.tup [.ref q, .str start, .ref e, .ref wl, .ref a]) ∧ PartsAt G q posts lanes ∧ NetD posts lanes ∧ StrL G e ends ∧ StrL G wl ws ∧ MachL G a m ∧ m.atoms.length ≤ 5 ∧ H rl = some (.lst rs) ∧
  Seq2 (fun v w => ∃ l R, v = .ref l ∧ l ≠ rl ∧ G l = none ∧ StrL H l (R.map (·.1)) ∧ Avoid lanes m.mach start ends w R) rs ws ∧ rs.Nodup ∧ ws.length ≤ 100 ∧
  (∀ (HZ : Hp) (Q' : VK), Off (fun b => V.ref b ∈ rs) H HZ → (∀ (Lr : Addr) (rs' : List V) (H' : Hp), Same HZ H' → H' Lr = some (.lst rs') → Seq2 (RunV H' lanes m.mach start ends) rs' ws → Q' (.ref Lr) H') → tl HZ Q') ∧
  ∀ H', Off (fun b => V.ref b ∈ rs) H H' → Q (.bl true) H'
theorem Seq2.drop {α β : Type} {R : α → β → Prop} {xs : List α} {ys : List β} (h : Seq2 R xs ys) (n : Nat) : Seq2 R (xs.drop n) (ys.drop n) :=
  ⟨by rw [List.length_drop, List.length_drop, h.1], fun i x y hx hy => h.2 (n + i) x y (by rw [List.getElem?_drop] at hx; exact hx) (by rw [List.getElem?_drop] at hy; exact hy)⟩
theorem drop_head {α : Type} {xs : List α} {x y : α} (hn : xs.Nodup) (hh : xs[0]? = some x) (hy : y ∈ xs.drop 1) : y ≠ x := by
  cases xs with
  | nil => cases hh
  | cons z r =>
    cases Option.some.inj hh
    intro e
    rw [e] at hy
    exact (List.nodup_cons.mp hn).1 hy
section
variable {X : Cx}
theorem r_clear {p : Addr} {xs : List V} {H : Hp} {Q : VK} (h : H p = some (.lst xs)) (k : Q .non (upd H p (.lst []))) : rClear (.ref p) [] H Q := ⟨p, xs, rfl, rfl, h, k⟩
abbrev st__law_emptied : Stmt := topS 102
abbrev N__law_emptied : List Str := ["_law_board", "_law_runs", "_law_again", "_law_parts", "_law_start", "_law_ends_here", "_law_wanted", "_law_machine_here", "_law_run"]
theorem sc__law_emptied : FnScope N__law_emptied ["_law_board", "_law_runs", "_law_again"] (defScope st__law_emptied) := ⟨rfl, rfl, rfl, by decide +kernel, rfl, by decide +kernel, by decide +kernel⟩
theorem gives_emptied {k : Nat} {g : Addr} {cdg : Value} {q : Str} (hk : 4 ≤ k) (T : Top X.K X.mg) (c__law_right : Cal X.prog X.w X.K X.mg X.base 4 "_law_right" spRight) : Gives3 X N__law_emptied "_law_emptied" (defScope st__law_emptied) g cdg (defBody st__law_emptied) "_law_again" q k spEmpt := by
  intro f c' s H v1 v2 Q tl hr act hco h
  obtain ⟨b, q, e, wl, a, rl, start, ends, ws, rs, m, G, posts, lanes, rfl, rfl, sg, hb, hparts, hnet, he, hwl, hm, hm5, hrl, hrs, hnd, hw100, htl, k1⟩ := h
  have hoff : ∀ b o, G b = some o → V.ref b ∉ rs := fun b o e z => by
    obtain ⟨i, hi⟩ := List.mem_iff_getElem?.mp z
    obtain ⟨w, _, l, R, e1, _, e3, _⟩ := hrs.at hi
    cases e1
    rw [e] at e3; cases e3
  have hco' : V.ref c' ∉ rs := fun z => by
    obtain ⟨i, hi⟩ := List.mem_iff_getElem?.mp z
    obtain ⟨w, _, l, R, e1, _, _, e4, _⟩ := hrs.at hi
    cases e1
    have e5 := Option.some.inj (hco.symm.trans e4)
    unfold CodeO at e5
    cases e5
  have hrl' : V.ref rl ∉ rs := fun z => by
    obtain ⟨i, hi⟩ := List.mem_iff_getElem?.mp z
    obtain ⟨w, _, l, R, e1, e2, _⟩ := hrs.at hi
    cases e1
    exact e2 rfl
  refine ⟨_, (pss_cons (ps_asg (pv 0) (pg_tup rfl (pgs_cons (pg_name (i := 3) sc__law_emptied.nd rfl (Or.inl rfl)) (pgs_cons (pg_name (i := 4) sc__law_emptied.nd rfl (Or.inl rfl)) (pgs_cons (pg_name (i := 5) sc__law_emptied.nd rfl (Or.inl rfl)) (pgs_cons (pg_name (i := 6) sc__law_emptied.nd rfl (Or.inl rfl)) (pgs_cons (pg_name (i := 7) sc__law_emptied.nd rfl (Or.inl rfl)) pgs_nil)))))))
  (pss_cons (ps_for PassesOwn.never rfl (pi_list (pe_slice sl_list (pv 1) po_none (po_some pe_int))) (pg_name (i := 8) sc__law_emptied.nd rfl (Or.inl rfl)) (pss_one (ps_expr (pe_bm0 PySem.F.plainAttrs_list PySem.F.slot_list_clear PySem.F.type_list_clear mt_clear (pv 8)))))
  (pss_cons (ps_if (pt_not (pt_val (C8.pe_c c__law_right hr (by omega) rfl (pa_cons (pv 3) (pa_cons (pv 4) (pa_cons (pv 5) (pa_cons (pe_slice sl_list (pv 6) (po_some pe_int) po_none) (pa_cons (pv 7) (pa_cons (pe_slice sl_list (pv 1) (po_some pe_int) po_none) pa_nil))))))))) (pss_one (ps_ret pe_bl)) pss_nil)
  (pss_one (ps_ret (C8.pe_c c__law_right hr (by omega) rfl (pa_cons (pv 3) (pa_cons (pv 4) (pa_cons (pv 5) (pa_cons (pv 6) (pa_cons (pv 7) (pa_cons (act _ _) pa_nil)))))))))))), ?_⟩
  walk_at "r"
  refine r_gtup (sg _ _ hb) rfl ?_
  walk_at "r"
  refine r_slL hrl fun a1 ha1 => ?_
  have e1 : cutV rs none (some 1) = rs.take 1 := cut_to rs 1
  rw [e1]
  have hL : Off (fun b => V.ref b ∈ rs) H (upd H a1 (.lst (rs.take 1))) := (same_upd ha1).off
  have hA : upd H a1 (.lst (rs.take 1)) a1 = some (.lst (rs.take 1)) := upd_same
  have hA' : V.ref a1 ∉ rs := fun z => by
    obtain ⟨i, hi⟩ := List.mem_iff_getElem?.mp z
    obtain ⟨w, _, l, R, e1, _, _, e4, _⟩ := hrs.at hi
    cases e1
    cases ha1.symm.trans e4
  have hS1 := same_upd (o := .lst (rs.take 1)) ha1
  have hO1 : Off (fun b => rs[0]? = some (V.ref b)) H (upd H a1 (.lst (rs.take 1))) := hS1.off
  revert hL hA hS1 hO1
  generalize upd H a1 (.lst (rs.take 1)) = H1
  intro hL hA hS1 hO1
  refine ⟨a1, rfl, ⟨_, .inl (.inl hA)⟩, ?_⟩
  refine for_it (walk_list (xs := rs.take 1)) (fun i σ H' => ∃ y8 : Option V, Off (fun b => rs[0]? = some (V.ref b)) H H' ∧ H' a1 = some (.lst (rs.take 1)) ∧ (∀ l, rs[0]? = some (V.ref l) → ∃ xs, H' l = some (.lst xs)) ∧
    σ = [some (.ref b), some (.ref rl), some (.ref f), some (.ref q), some (.str start), some (.ref e), some (.ref wl), some (.ref a), y8])
    ⟨_, hO1, hA, fun l hl => ?_, rfl⟩ (fun i σ H' _ ⟨_, _, h, _⟩ => .inl (.inl h)) ?_ ?_
  · obtain ⟨w, _, l', R, e1, _, _, e4, _⟩ := hrs.at hl
    cases e1
    exact ⟨_, hS1 _ _ e4⟩
  · rintro i v σ H2' H2 hi ⟨y8, hO, hA2, hX, rfl⟩ ⟨rfl, hx⟩
    have hi0 : i = 0 := by
      have := (List.getElem?_eq_some_iff.mp hx).1
      rw [List.length_take] at this
      omega
    subst hi0
    have hx0 : rs[0]? = some v := by
      rw [List.getElem?_take] at hx
      split at hx
      · exact hx
      · cases hx
    obtain ⟨w, _, l, R, rfl, _⟩ := hrs.at hx0
    obtain ⟨xs, hl⟩ := hX l hx0
    walk_at "r"
    refine r_tyL hl ?_
    refine r_clear hl ?_
    have hla : l ≠ a1 := fun z => hA' (z ▸ List.mem_of_getElem? hx0)
    refine ⟨_, fun b' o n e => ?_, by rw [upd_ne (Ne.symm hla)]; exact hA2, fun l2 hl2 => ?_, rfl⟩
    · rw [upd_ne (fun z => n (by rw [z]; exact hx0))]
      exact hO b' o n e
    · cases Option.some.inj (hx0.symm.trans hl2)
      exact ⟨_, upd_same⟩
  · rintro σ H2 ⟨y8, hO, hA2, hX, rfl⟩
    have hO' : Off (fun b => V.ref b ∈ rs) H H2 := fun b' o n e => hO b' o (fun z => n (List.mem_of_getElem? z)) e
    have sg2 : Same G H2 := fun b' o e => hO' b' o (hoff b' o e) (sg _ _ e)
    have hrl2 := hO' _ _ hrl' hrl
    walk_at "r"
    refine r_slL (sg2 _ _ hwl) fun a2 ha2 => ?_
    have e2 : cutV (ws.map V.str) (some 1) none = (ws.drop 1).map V.str := by rw [List.map_drop]; exact cut_from _ 1
    rw [e2]
    have s3 := same_upd (o := .lst ((ws.drop 1).map V.str)) ha2
    have h3 : StrL (upd H2 a2 (.lst ((ws.drop 1).map V.str))) a2 (ws.drop 1) := upd_same
    revert s3 h3
    generalize upd H2 a2 (.lst ((ws.drop 1).map V.str)) = H3
    intro s3 h3
    walk_at "r"
    refine r_slL (s3 _ _ hrl2) fun a4 ha4 => ?_
    have e4 : cutV rs (some 1) none = rs.drop 1 := cut_from rs 1
    rw [e4]
    have s4 := same_upd (o := .lst (rs.drop 1)) ha4
    have h4 : upd H3 a4 (.lst (rs.drop 1)) a4 = some (.lst (rs.drop 1)) := upd_same
    revert s4 h4
    generalize upd H3 a4 (.lst (rs.drop 1)) = H4
    intro s4 h4
    have s24 := s3.trans s4
    have sg4 := sg2.trans s24
    refine ⟨q, e, a2, a, a4, start, ends, ws.drop 1, rs.drop 1, m, H4, posts, lanes, rfl, Same.refl _, hparts.mono sg4, hnet, sg4 _ _ he, s4 _ _ h3, hm.mono sg4, hm5, h4, ?_, by rw [List.length_drop]; omega, fun H5 s5 => ?_⟩
    · refine ⟨(hrs.drop 1).1, fun i v w hv hw => ?_⟩
      obtain ⟨l, R, rfl, _, _, hl, hR⟩ := (hrs.drop 1).2 i v w hv hw
      refine ⟨l, R, rfl, s24 _ _ (hO _ _ (fun z => ?_) hl), hR⟩
      exact drop_head hnd z (List.mem_of_getElem? hv) rfl
    · walk_at "r"
      have s25 := s24.trans s5
      have hO5 : Off (fun b => V.ref b ∈ rs) H H5 := fun b' o n e => s25 _ _ (hO' b' o n e)
      refine ⟨rfl, hO5 _ _ hco' hco, htl H5 _ hO5 fun Lr rs' H6 s6 hLr hrs' => ?_⟩
      have hO6 : Off (fun b => V.ref b ∈ rs) H H6 := fun b' o n e => s6 _ _ (hO5 b' o n e)
      have sg6 : Same G H6 := (sg2.trans s25).trans s6
      walk_at "r"
      refine ⟨q, e, wl, a, Lr, start, ends, ws, rs', m, H6, posts, lanes, rfl, Same.refl _, hparts.mono sg6, hnet, sg6 _ _ he, sg6 _ _ hwl, hm.mono sg6, hm5, hLr, hrs', hw100, fun H7 s7 => ?_⟩
      exact k1 H7 fun b' o n e => s7 _ _ (hO6 b' o n e)
end
end K48
/-! ## KD36 -/
set_option maxHeartbeats 4000000
namespace K48
open PySem L2
local macro_rules | `(tactic| walk_at "r1") => `(tactic| first
  | with_reducible refine r_seq ?_ | with_reducible refine r_asg ?_ | with_reducible refine r_ret ?_ | with_reducible refine r_drop ?_ | with_reducible refine r_if ?_ | with_reducible refine r_next ?_
  | with_reducible refine r_name ?_ | with_reducible refine r_c ?_ | ((with_reducible show tVar _ _ _ _); refine r_var rfl ?_) | with_reducible refine r_op ?_ | with_reducible refine r_un ?_
  | with_reducible refine r_i0 ?_ | with_reducible refine r_test ?_ | with_reducible refine r_tB ?_ | with_reducible refine r_bl ?_ | with_reducible refine r_and ?_ | with_reducible refine r_or ?_
  | with_reducible refine r_not ?_ | with_reducible refine r_ifE ?_ | with_reducible refine r_cons ?_ | with_reducible refine r_nil ?_ | with_reducible refine r_cb ?_ | with_reducible refine r_call ?_
  | with_reducible refine r_lstG ?_ | with_reducible refine r_tupG ?_ | with_reducible refine r_sl ?_ | with_reducible refine r_noP ?_ | with_reducible refine r_part ?_ | with_reducible refine r_exI ?_
  | with_reducible refine r_tr ?_ | with_reducible refine r_fa ?_ | with_reducible refine r_for ?_ | with_reducible refine r_iList ?_ | with_reducible refine r_iTup ?_ | with_reducible refine r_iStr ?_
  | with_reducible refine r_iR1 ?_ | with_reducible refine r_iR2 ?_ | with_reducible refine r_lc ?_ | with_reducible refine r_nt ?_ | with_reducible refine r_nf ?_ | with_reducible refine r_orV ?_ | with_reducible refine r_andV ?_ | with_reducible refine r_yesT ?_ | with_reducible refine r_gsub ?_ | with_reducible refine r_gcons ?_ | with_reducible refine r_gnil ?_ | with_reducible refine r_bm ?_ | with_reducible refine r_bm0 ?_
  | with_reducible refine r_fldG ?_ | with_reducible refine r_sfldG ?_ | with_reducible refine r_meth ?_ | with_reducible refine r_make ?_ | with_reducible refine r_dget ?_ | with_reducible refine r_din ?_ | with_reducible refine r_dnin ?_ | with_reducible refine r_dput ?_
  | with_reducible refine r_dgetN ?_ | with_reducible refine r_dinN ?_ | with_reducible refine r_dninN ?_ | with_reducible refine r_dputN ?_ | ((with_reducible show tAug _ _ _ _ _ _); refine r_aug rfl ?_) | with_reducible refine r_par ?_ | with_reducible refine r_neg ?_ | with_reducible refine r_iEnum ?_ | with_reducible refine r_iZip ?_ | with_reducible refine r_iZipA ?_)
local macro_rules | `(tactic| walk_at "r") => `(tactic| repeat walk_at "r1")

open LamX (ExtN Tabs TabS CodeO TabB)
abbrev lamQ : Str := (("law" : Str) ++ ".<locals>.") ++ "<lambda>"
def spLaw (K : PySem.W.Frag) (tab : Addr) : Sp := fun vs H Q _ => ∃ (a : Addr) (ns : List Int), vs = [.ref a] ∧ SqL K H a (ns.map V.int) ∧ Tabs [(tab, lamQ)] H ∧ ∀ H', Q (.bl true) H'
/-- what stands from turn to turn -/
structure LawI (K : PySem.W.Frag) (CC CN tab a q c u e : Addr) (ns : List Int) (start : Str) (ends posts : List Str) (lanes us : List (Lane Str)) (H : Hp) : Prop where
  sc : SqL K H a (ns.map V.int)
  pa : PartsAt H q posts lanes
  co : CourseAt CC CN H c posts lanes start ends
  us : StrL H u (us.map (·.1))
  en : StrL H e ends
  tb : Tabs [(tab, lamQ)] H
section
variable {P : Program} {w : World} {K : PySem.W.Frag} {mg : Str → Option Value} {base : Heap} {CC CN CP CM CB tab c0 : Addr}
theorem LawI.mono {a q c u e : Addr} {ns : List Int} {start : Str} {ends posts : List Str} {lanes us : List (Lane Str)} {H H' : Hp} (s : Same H H') (h : LawI K CC CN tab a q c u e ns start ends posts lanes us H) : LawI K CC CN tab a q c u e ns start ends posts lanes us H' :=
  ⟨s.seq h.sc, h.pa.mono s, h.co.mono s, s _ _ h.us, s _ _ h.en, h.tb.ext s⟩
/-- no run that takes z avoids the pattern -/
noncomputable def bad (lanes : List (Lane Str)) (M : Mach Str) (start : Str) (ends : List Str) (z : Str) : Bool := @decide (¬ ∃ R, Avoid lanes M start ends z R) (Classical.propDecidable _)
theorem bad_t {lanes : List (Lane Str)} {M : Mach Str} {start : Str} {ends : List Str} {z : Str} (h : ¬ ∃ R, Avoid lanes M start ends z R) : bad lanes M start ends z = true := @decide_eq_true _ (Classical.propDecidable _) h
theorem bad_f {lanes : List (Lane Str)} {M : Mach Str} {start : Str} {ends : List Str} {z : Str} (h : ∃ R, Avoid lanes M start ends z R) : bad lanes M start ends z = false := @decide_eq_false _ (Classical.propDecidable _) fun n => n h
theorem Dg.all {p : Addr} {n : Nat} {G H G1 H1 : Hp} (d : Dg p n G H G1 H1) {H0 : Hp} (s : Same H0 H) (h : H0 p = none) : Same H0 H1 := fun b o e => d.gr.off b o (fun z => by rw [z, h] at e; cases e) (s _ _ e)
theorem e_makeA {C : Addr} {sp : Sp} {E : XK} {R : Addr → Hp → Prop} {vs : List V} {G1 H1 : Hp} (s : Same G1 H1) (k : ∀ x dx H2, Same H1 H2 → H1 x = none → G1 x = none → H2 x = some (.ins C dx []) → sp (.ref x :: vs) H2 (fun v H3 => v = .non ∧ R x H3) E) : ∀ x dx, H1 x = none → H1 dx = none → dx ≠ x → sp (.ref x :: vs) (upd (upd H1 dx (.own x)) x (.ins C dx [])) (fun v H2 => v = .non ∧ R x H2) E :=
  fun x dx hx hd hne => k x dx _ ((same_upd hd).trans (same_upd ((upd_ne (Ne.symm hne)).trans hx))) hx ((Grow.refl (m := no) s).free1 hx) upd_same
theorem dp_runs {H : Hp} {vs : List V} (h : ∀ v ∈ vs, ∃ l zs, v = .ref l ∧ StrL H l zs ∧ ∀ z ∈ zs, IsNm z) : ∃ ds : List PyData, DpAll K H vs ds ∧ ∀ d ∈ ds, Dk 1 d := by
  induction vs with
  | nil => exact ⟨[], .nil, fun d hd => by cases hd⟩
  | cons v vs ih =>
    obtain ⟨ds, h1, h2⟩ := ih fun x hx => h x (List.mem_cons_of_mem _ hx)
    obtain ⟨l, zs, rfl, hl, hz⟩ := h v List.mem_cons_self
    refine ⟨.list (zs.map PyData.str) :: ds, .cons (.lst (.inl (.inl hl)) (dp_strs zs)) h1, fun d hd => ?_⟩
    rcases List.mem_cons.mp hd with rfl | hd
    · exact dk_list (dk_strs hz)
    · exact h2 d hd
abbrev st_law : Stmt := topS 103
abbrev N_law : List Str := ["_law_script", "_law_pool_here", "_law_parts", "_law_start", "_law_ends_here", "_law_used_here", "_law_course_here", "_law_turn", "_law_some", "_law_thing", "_law_tree_here", "_law_machine_here", "_law_k", "_law_wanted", "_law_bringers", "_law_lane", "_law_runs", "_law_name", "_law_board", "_law_lot_here", "_law_run"]
theorem sc_law : FnScope N_law ["_law_script"] (defScope st_law) := ⟨rfl, rfl, rfl, by decide +kernel, rfl, by decide +kernel, by decide +kernel⟩
theorem ok_law (T : Top K mg) {f : Addr} {oc kV doc pm ct : Value} {od an : Option Addr} {osl : Array (Option Value)} (lk : K.lookup f = some ⟨oc, od, .func (PySem.W.fnOf "law" "law" (defArgs st_law) (defBody st_law) (defScope st_law) .none kV doc pm an (.ref c0) ct), osl⟩) (hcd : PySem.W.codeIn K (.ref c0) "law" = true) (TB : TabB base mg c0 tab)
    (FE : Dn K mg "_law_emptied" st__law_emptied) (c_suite : CalX P w K mg base 13 "suite" ["course", "wanted", "pattern"] (spSuite CC CN CP CB 5)) (c_Course : C8.Mak P w K mg base 4 "Course" CC (spCInit CC CN) []) (c__law_asking : Cal P w K mg base 15 "_law_asking" (spAsking CP)) (c__law_built : Cal P w K mg base 3 "_law_built" (spBuilt CN))
    (c__law_cell : Cal P w K mg base 1 "_law_cell" (spCellL K)) (c__law_course : Cal P w K mg base 2 "_law_course" (spCourseD K)) (c__law_least_run : Cal P w K mg base 3 "_law_least_run" spLeast) (c__law_line_net : Cal P w K mg base 3 "_law_line_net" spLineNet) (c__law_lot : Cal P w K mg base 3 "_law_lot" spLot)
    (c__law_machine : Cal P w K mg base 7 "_law_machine" (spMachL 5)) (c__law_pool : Cal P w K mg base 1 "_law_pool" spPool) (c__law_right : Cal P w K mg base 4 "_law_right" spRight) (c__law_run_shows : Cal P w K mg base 3 "_law_run_shows" spRunShows) (c__law_take : Cal P w K mg base 1 "_law_take" spTake)
    (c__law_told : Cal P w K mg base 14 "_law_told" (spTold CC CN CP 5)) (c__law_used : Cal P w K mg base 2 "_law_used" spUsed) :
    FnOk P w K mg base C8.CX0 21 f (PySem.W.fnOf "law" "law" (defArgs st_law) (defBody st_law) (defScope st_law) .none kV doc pm an (.ref c0) ct) ["_law_script"] (spLaw K tab) := by
  obtain ⟨fs, fds, GS, hms, hks, hbs⟩ := c_suite.ex
  obtain ⟨fe, fde, Fe, hme⟩ := FE.ex
  have be := L2.Fun.binds Fe (ps := ["_law_board", "_law_runs", "_law_again"]) fun _ _ _ _ _ _ us hl => match us, hl with | [_, _, _], _ => rfl
  have kpe := Fe.kp
  obtain ⟨oce, ode, kVe, doce, pme, ane, cdve, cte, osle, rfl, lke, hcde⟩ := Fe.ex
  have main : ∀ (A : Around) (outer : List Env) (s : Shared) (H : Hp) (vs : List V) (Q : VK) (E : XK), Room 20 (A.deeper (PyProof.Rows.envOfC "law" (defScope st_law) s.heap.objs.size f (.ref c0))) → spLaw K tab vs H Q E →
      ∃ t, PSs (cxOf C8.CX0 P w K mg base N_law "law" (defScope st_law) f (.ref c0) A outer s H E).nox (defBody st_law) t ∧ t { nx := fun _ H' => Q .non H', rt := Q } (start N_law vs) H := by
    intro A outer s H vs Q E hr h
    obtain ⟨a, ns, rfl, hS, hT, k⟩ := h
    refine ⟨_, (pss_cons (ps_set (i := 1) sc_law.nd rfl (Or.inl rfl) (C8.pe_c c__law_pool hr (by omega) rfl (pa_cons (C8.pe_c c__law_cell hr (by omega) rfl (pa_cons (pv 0) (pa_cons pe_int pa_nil))) pa_nil)))
  (pss_cons (ps_set (i := 2) sc_law.nd rfl (Or.inl rfl) (C8.pe_c c__law_line_net hr (by omega) rfl (pa_cons (pv 1) (pa_cons pe_int (pa_cons pe_int pa_nil)))))
  (pss_cons (ps_asg (C8.pe_c c__law_course hr (by omega) rfl (pa_cons (pv 1) (pa_cons (pv 2) pa_nil))) (pg_tup rfl (pgs_cons (pg_name (i := 3) sc_law.nd rfl (Or.inl rfl)) (pgs_cons (pg_name (i := 4) sc_law.nd rfl (Or.inl rfl)) pgs_nil))))
  (pss_cons (ps_set (i := 5) sc_law.nd rfl (Or.inr rfl) (C8.pe_c c__law_used hr (by omega) rfl (pa_cons (pv 2) (pa_cons (pv 3) (pa_cons (pv 4) pa_nil)))))
  (pss_cons (ps_if (pt_cmpR (op_eqD hr.units) (pv 5) (pe_lst pa_nil) (nomark _)) (pss_one (ps_ret pe_bl)) pss_nil)
  (pss_cons (ps_set (i := 6) sc_law.nd rfl (Or.inr rfl) (C8.pe_mk c_Course hr (by omega) rfl (pa_cons (C8.pe_c c__law_built hr (by omega) rfl (pa_cons (pv 2) pa_nil)) (pa_cons (pv 3) (pa_cons (pv 4) pa_nil)))))
  (pss_cons (ps_for PassesOwn.never rfl (pi_range1 rfl T.b_range (pa_cons pe_int pa_nil)) (pg_name (i := 7) sc_law.nd rfl (Or.inl rfl)) (pss_cons (ps_set (i := 8) sc_law.nd rfl (Or.inr rfl) (C8.pe_c c__law_pool hr (by omega) rfl (pa_cons (pe_op op_add (C8.pe_c c__law_cell hr (by omega) rfl (pa_cons (pv 0) (pa_cons (pe_op op_add pe_int (pv 7)) pa_nil))) (pv 7)) pa_nil)))
  (pss_cons (ps_asg (C8.pe_c c__law_asking hr (by omega) rfl (pa_cons (pv 8) (pa_cons (pv 2) (pa_cons pe_int pa_nil)))) (pg_tup rfl (pgs_cons (pg_name (i := 9) sc_law.nd rfl (Or.inr rfl)) (pgs_cons (pg_name (i := 10) sc_law.nd rfl (Or.inl rfl)) pgs_nil))))
  (pss_cons (ps_set (i := 11) sc_law.nd rfl (Or.inr rfl) (C8.pe_c c__law_machine hr (by omega) rfl (pa_cons (pv 10) (pa_cons pe_int pa_nil))))
  (pss_cons (ps_set (i := 13) sc_law.nd rfl (Or.inr rfl) (pe_lc (own := [("_law_k", 12)]) (g := (gName 12)) (tt := tYes) rfl sc_law.nd (pi_range1 rfl T.b_range (pa_cons (C8.pe_c c__law_take hr (by omega) rfl (pa_cons (pv 8) (pa_cons pe_int pa_nil))) pa_nil)) (blkOk_by (N := N_law) (sc := defScope st_law) (by decide +kernel)) (fun _ _ _ _ _ => (pg_name (i := 12) sc_law.nd rfl (Or.inl rfl))) (fun _ _ _ _ _ => pts_nil) (fun _ _ _ _ _ => (pe_ix (ix_list : IxR _ (rIxL K)) (pv 5) (C8.pe_c c__law_take hr (by omega) rfl (pa_cons (pv 8) (pa_cons (pe_callB (call_len_seq : CallR _ _ (rLenQ K)) rfl T.b_len (by decide +kernel) (pa_cons (pv 5) pa_nil)) pa_nil))) (fun _ _ => rfl)))))
  (pss_cons (ps_set (i := 13) sc_law.nd rfl (Or.inr rfl) (pe_op op_cat (pv 13) (pe_slice sl_list (pv 13) po_none (po_some (C8.pe_c c__law_take hr (by omega) rfl (pa_cons (pv 8) (pa_cons pe_int pa_nil)))))))
  (pss_cons (ps_set (i := 14) sc_law.nd rfl (Or.inl rfl) (pe_lst pa_nil))
  (pss_cons (ps_for PassesOwn.never rfl (pi_list (pv 13)) (pg_name (i := 15) sc_law.nd rfl (Or.inl rfl)) (pss_one (ps_if (pt_cmpR op_isN (C8.pe_c c__law_least_run hr (by omega) rfl (pa_cons (pv 2) (pa_cons (pv 3) (pa_cons (pv 4) (pa_cons (pe_lst (pa_cons (pv 15) pa_nil)) (pa_cons (pv 11) pa_nil)))))) pe_non (nomark _)) (pss_one (ps_expr (pe_bm PySem.F.plainAttrs_list PySem.F.slot_list_append PySem.F.type_list_append mt_append (pv 14) (pa_cons (pv 15) pa_nil)))) pss_nil)))
  (pss_cons (ps_asg (C8.pe_c c__law_told hr (by omega) rfl (pa_cons (pv 6) (pa_cons (pe_ix ix_list (pe_lst (pa_cons (pv 13) (pa_cons (pe_callTy (call_tuple_of : CallR _ _ (rTupQ K)) rfl T.b_tuple (by decide +kernel) (pa_cons (pv 13) pa_nil)) pa_nil))) (C8.pe_c c__law_take hr (by omega) rfl (pa_cons (pv 8) (pa_cons pe_int pa_nil))) (fun _ _ => rfl)) (pa_cons (pv 9) pa_nil)))) (pg_tup rfl (pgs_cons (pg_name (i := 16) sc_law.nd rfl (Or.inl rfl)) (pgs_cons (pg_name (i := 17) sc_law.nd rfl (Or.inl rfl)) pgs_nil))))
  (pss_one (ps_if (pt_cmpR (op_eqD hr.units) (pv 14) (pe_lst pa_nil) (nomark _)) (pss_cons (ps_if (pt_cmpR op_notN (pv 17) pe_non (nomark _)) (pss_one (ps_ret pe_bl)) pss_nil)
  (pss_cons (ps_if (pt_not (pt_val (C8.pe_c c__law_right hr (by omega) rfl (pa_cons (pv 2) (pa_cons (pv 3) (pa_cons (pv 4) (pa_cons (pv 13) (pa_cons (pv 11) (pa_cons (pv 16) pa_nil))))))))) (pss_one (ps_ret pe_bl)) pss_nil)
  (pss_cons (ps_set (i := 18) sc_law.nd rfl (Or.inl rfl) (pe_tup (pa_cons (pv 2) (pa_cons (pv 3) (pa_cons (pv 4) (pa_cons (pv 13) (pa_cons (pv 11) pa_nil)))))))
  (pss_one (ps_if (pt_not (pt_val (pe_lam3 (T := [(tab, lamQ)]) (k := 14) rfl hme kpe lke hcde be rfl sc__law_emptied rfl (.inl rfl) (gives_emptied (by omega) T c__law_right) (pv 18) (pv 16) TB rfl (List.mem_singleton.mpr rfl) (fun p hp _ => by rw [List.mem_singleton.mp hp]; rfl) (hr.mono (by omega)) (by omega) (show LamX.LamS (defScope st_law) _ from LamX.lamS_by (by decide +kernel)) rfl (fun _ _ _ _ _ => rfl) (fun A outer s H f c2 hr2 => by exact (pe_call GS (hr2.mono (by omega)) rfl hms hks hbs .nil passL (pa_cons (pv 6) (pa_cons (pv 13) (pa_cons (pv 9) pa_nil)))))))) (pss_one (ps_ret pe_bl)) pss_nil))))) (pss_cons (ps_if (pt_cmpR op_ne (pv 17) (pe_ix ix_list (pv 14) pe_int (fun _ _ => rfl)) (nomark _)) (pss_one (ps_ret pe_bl)) pss_nil)
  (pss_cons (ps_set (i := 19) sc_law.nd rfl (Or.inl rfl) (C8.pe_c c__law_lot hr (by omega) rfl (pa_cons (pv 8) (pa_cons (pv 2) (pa_cons (pv 3) (pa_cons (pv 4) (pa_cons (pv 13) pa_nil)))))))
  (pss_one (ps_if (pt_cmpR op_notN (pv 19) pe_non (nomark _)) (pss_one (ps_if (pt_cmpR (op_eqD hr.units) (pe_lc (own := [("_law_run", 20)]) (g := (gName 20)) rfl sc_law.nd (pi_list (pv 19)) (blkOk_by (N := N_law) (sc := defScope st_law) (by decide +kernel)) (fun _ _ _ _ _ => (pg_name (i := 20) sc_law.nd rfl (Or.inl rfl))) (fun _ _ _ _ _ => (pts_one (pt_val (C8.pe_c c__law_run_shows hr (by omega) rfl (pa_cons (pv 20) (pa_cons (pv 11) pa_nil)))))) (fun _ _ _ _ _ => (pv 20))) (pe_lst pa_nil) (nomark _)) (pss_one (ps_ret pe_bl)) pss_nil)) pss_nil)))))))))))))))
  (pss_one (ps_ret pe_bl))))))))), ?_⟩
    walk_at "r"
    refine ⟨a, ns, 0, rfl, hS, fun z0 => ?_⟩
    walk_at "r"
    refine ⟨z0, rfl, fun p o hp0 hpl => ?_⟩
    have sH := same_upd (o := o) hp0
    have d : Dg p 0 H (upd H p o) H (upd H p o) := Dg.refl sH hpl hp0
    revert sH d
    generalize upd H p o = H1
    intro sH d
    walk_at "r"
    refine ⟨p, H, 0, rfl, d.gr.gh, d.gp, d.pl, by omega, fun q posts lanes G2 H2 d2 hparts hnet => ?_⟩
    have d := d.trans d2
    walk_at "r"
    refine ⟨p, q, G2, posts, lanes, _, rfl, d.gr.gh, d.gp, d.pl, by omega, hparts, hnet, fun t e start ends G3 H3 d3 ht he hst hen hen3 => ?_⟩
    have d := d.trans d3
    have hparts := hparts.mono d3.gr.gg
    refine r_gtup (d.at ht) rfl ?_
    walk_at "r"
    have hennm : ∀ z ∈ ends, IsNm z := fun z hz => hnet.pn.nm z (hen z hz)
    refine ⟨q, e, start, ends, G3, posts, lanes, rfl, d.gr.gh, hparts, hnet.l8, he, hennm, by omega, fun u us H4 s4 hu0 hu hul hus => ?_⟩
    have sG4 := same_upd (o := .lst ((us.map (·.1)).map V.str)) (d.free1 hu0)
    have d := (d.same s4).tell hu (d.free hu0)
    have hu : StrL (upd G3 u (.lst ((us.map (·.1)).map V.str))) u (us.map (·.1)) := upd_same
    have hparts := hparts.mono sG4
    have he := sG4 _ _ he
    revert d hu hparts he
    generalize upd G3 u (.lst ((us.map (·.1)).map V.str)) = G4
    intro d hu hparts he
    have husnm : ∀ z ∈ us.map (·.1), IsNm z := fun z hz => by
      obtain ⟨x, hx, rfl⟩ := List.mem_map.mp hz
      exact hnet.ln.nm _ (List.mem_map_of_mem (hus x hx).1)
    walk_at "r"
    refine h_lst rfl fun l0 H5 s5 hl0 _ => ?_
    have d := d.same s5
    refine r_eqNilS (d.at hu) husnm hl0 ?_
    refine ⟨_, rfl, ?_⟩
    by_cases c : us = []
    · refine r_yes (by rw [c]; rfl) ?_
      walk_at "r"
      exact k _
    · refine r_no (by cases us <;> simp_all) ?_
      walk_at "r"
      refine ⟨q, G4, posts, lanes, rfl, d.gr.gh, hparts, hnet, fun nx G6 H6 g6 hnx => ?_⟩
      have d := d.grow g6
      walk_at "r"
      refine e_makeA (vs := [.ref nx, .str start, .ref e]) d.gr.gh fun x dx H7 s7 hx hxG hx7 => ?_
      refine ⟨x, dx, nx, e, start, G6, H6, posts, ends, lanes, rfl, d.gr.gh, s7, hx, hx7, hnx, hnet, g6.gg _ _ he, hst, hen, by omega, fun G8 H8 g8 hc => ⟨rfl, ?_⟩⟩
      have d := d.grow g8
      have sHH := d.all sH hp0
      have sG := g6.gg.trans g8.gg
      have hI : LawI K CC CN tab a q x u e ns start ends posts lanes us H8 := ⟨sHH.seq hS, (hparts.mono sG).mono d.gr.gh, hc.mono d.gr.gh, d.at (sG _ _ hu), d.at (sG _ _ he), hT.ext sHH⟩
      have hlan : lanes ≠ [] := fun z => by
        obtain ⟨y, hy⟩ := List.exists_mem_of_ne_nil _ c
        have := (hus y hy).1
        rw [z] at this
        cases this
      clear d sHH sG sH hS hT hu hparts he hc hnx
      walk_at "r"
      refine ⟨4, rfl, by decide, by decide, ?_⟩
      refine for_it (walk_rng0 (n := 4)) (fun i σ H' => ∃ (y7 y8 y9 y10 y11 y12 y13 y14 y15 y16 y17 y18 y19 y20 : Option V), LawI K CC CN tab a q x u e ns start ends posts lanes us H' ∧
        σ = [some (.ref a), some (.ref p), some (.ref q), some (.str start), some (.ref e), some (.ref u), some (.ref x), y7, y8, y9, y10, y11, y12, y13, y14, y15, y16, y17, y18, y19, y20])
        ⟨_, _, _, _, _, _, _, _, _, _, _, _, _, _, hI, rfl⟩ (fun _ _ _ _ _ => trivial) ?_ ?_
      · clear hI
        rintro i v σ H0' H0 hi ⟨y7, y8, y9, y10, y11, y12, y13, y14, y15, y16, y17, y18, y19, y20, hI, rfl⟩ ⟨rfl, rfl⟩
        have hi : i < 4 := hi
        walk_at "r"
        refine ⟨a, ns, 1 + i, by simp, hI.sc, fun z1 => ?_⟩
        walk_at "r"
        refine ⟨_, rfl, fun p2 o2 hp0 hpl => ?_⟩
        have s01 := same_upd (o := o2) hp0
        have d : Dg p2 0 H0 (upd H0 p2 o2) H0 (upd H0 p2 o2) := Dg.refl s01 hpl hp0
        revert s01 d
        generalize upd H0 p2 o2 = H1
        intro s01 d
        walk_at "r"
        refine ⟨p2, q, H0, posts, lanes, 0, rfl, d.gr.gh, d.gp, d.pl, by omega, hI.pa, hnet, hlan, fun r th tv t G2 H2 d2 hr2 hth htv htd htl => ?_⟩
        have d := d.trans d2
        refine r_gtup (d.at hr2) rfl ?_
        walk_at "r"
        refine ⟨tv, 0, t, G2, rfl, d.gr.gh, htv, by omega, by omega, by omega, fun ma G3 H3 g3 hm => ?_⟩
        have d := d.grow g3
        have hth := hth.mono g3.gg
        walk_at "r"
        refine r_tk (mm := 5) d (by decide) (by decide) (by omega) fun r5 o5 hr5 d => ?_
        refine ⟨_, rfl, by omega, by omega, fun Dl hD => ?_⟩
        have hD0 := d.free hD
        have hDG := d.free1 hD
        have huG : StrL G3 u (us.map (·.1)) := d.gr.gg _ _ hI.us
        have hus8 := hul
        have hus0 : 0 < us.length := List.length_pos_iff.mpr c
        refine lc_it walk_rng0 (fun i H' => ∃ es : List (Lane Str), es.length = i ∧ (∀ z ∈ es, z ∈ us) ∧ Dg p2 (1001 + i) H0 H1 G3 H' ∧ H' Dl = some (.lst ((es.map (·.1)).map V.str))) ⟨[], rfl, by simp, (d.newH hD).mono (by omega), upd_same⟩ (fun _ _ _ _ => trivial) ?_ ?_
        · rintro i x H5' H5 hi ⟨es, hl, hes, d, hDl⟩ ⟨rfl, rfl⟩
          have hi' : i < r5 := hi
          walk_at "r"
          refine ⟨rfl, ?_⟩
          walk_at "r"
          refine r_lenQL (d.at huG) ?_
          walk_at "r"
          rw [List.length_map, List.length_map]
          refine r_tk (mm := us.length) d hus0 (by omega) (by omega) fun r4 o4 hr4 d => ?_
          refine r_ixL (d.at huG) (by rw [List.getElem?_map, List.getElem?_map, List.getElem?_eq_getElem hr4]; rfl) ?_
          refine ⟨_, by rw [upd_ne (Ne.symm (d.ne hD0))]; exact hDl, by rw [List.length_map, List.length_map]; exact small_lt (by omega), es ++ [us[r4]], by rw [List.length_append, hl]; rfl, ?_, d.mut hDG hD0, by rw [upd_same, List.map_append, List.map_append]; rfl⟩
          intro z hz
          rcases List.mem_append.mp hz with hz | hz
          · exact hes z hz
          · rw [List.mem_singleton.mp hz]; exact List.getElem_mem _
        · rintro H5 ⟨es, hl, hes, d, hDl⟩
          have hl : es.length = r5 := hl
          have d := d.tell hDl hD0
          have hDl : StrL (upd G3 Dl (.lst ((es.map (·.1)).map V.str))) Dl (es.map (·.1)) := upd_same
          have s34 := same_upd (o := .lst ((es.map (·.1)).map V.str)) hDG
          have hm := hm.mono s34
          have hth := hth.mono s34
          revert d hDl hm hth
          generalize upd G3 Dl (.lst ((es.map (·.1)).map V.str)) = G4
          intro d hDl hm hth
          clear s34 huG hDG
          walk_at "r"
          refine r_tk (mm := 2) d (by decide) (by decide) (by omega) fun r6 o6 hr6 d => ?_
          refine ⟨_, rfl, ?_⟩
          refine e_slL (lo := none) (hi := some ((r6 : Nat) : Int)) d.gr.gh hDl fun l6 G6 H6 g6 hl6 _ => ?_
          rw [cut_to] at hl6
          have d := d.grow g6
          refine e_cat d.gr.gh (g6.gg _ _ hDl) hl6 (by rw [List.length_take, List.length_map, List.length_map]; omega) fun wl G7 H7 g7 hwl _ => ?_
          have d := d.grow g7
          have hm := (hm.mono g6.gg).mono g7.gg
          have hth := (hth.mono g6.gg).mono g7.gg
          obtain ⟨fs, hwl, hfs, hf8⟩ : ∃ fs : List (Lane Str), StrL G7 wl (fs.map (·.1)) ∧ (∀ z ∈ fs, z ∈ us) ∧ fs.length ≤ 8 := by
            refine ⟨es ++ es.take r6, ?_, fun z hz => ?_, by rw [List.length_append, List.length_take]; omega⟩
            · show G7 wl = _
              rw [hwl, List.map_append, List.map_append, List.map_take, List.map_take]
            · rcases List.mem_append.mp hz with hz | hz
              · exact hes z hz
              · exact hes z (List.mem_of_mem_take hz)
          clear hDl hl6 hl hes g6 g7
          have hM : (lawT t 0).mach = (readT t 0).mach := ((alike t 0).mach).symm
          have hat : (lawT t 0).atoms.length ≤ 5 := by rw [lawT_atoms]; exact htl
          have hat2 : (readT t 0).atoms.length ≤ 5 := by rw [readT_atoms]; exact htl
          have hfu : ∀ z ∈ fs.map (·.1), ∃ w, Used lanes start ends w ∧ w.1 = z := fun z hz => by
            obtain ⟨w, hw, rfl⟩ := List.mem_map.mp hz
            exact ⟨w, hus w (hfs w hw), rfl⟩
          have hfnm : ∀ z ∈ fs.map (·.1), IsNm z := fun z hz => by
            obtain ⟨w, hw, rfl⟩ := List.mem_map.mp hz
            exact husnm _ (List.mem_map_of_mem (hfs w hw))
          walk_at "r"
          refine h_lst rfl fun b H8 s8 hb hb0 => ?_
          have hbG := d.free1 hb0
          have hbH := d.free hb0
          have d := (d.same s8).mono (k := 2000) (by omega)
          walk_at "r"
          refine ⟨wl, rfl, ⟨_, .inl (.inl (d.at hwl))⟩, ?_⟩
          refine for_it (walk_list (xs := (fs.map (·.1)).map V.str)) (fun j σ H' => ∃ (G' : Hp) (y12 y15 : Option V), Dg p2 2000 H0 H1 G' H' ∧ Same G7 G' ∧ G' b = none ∧ StrL H' b (((fs.map (·.1)).take j).filter (bad lanes (lawT t 0).mach start ends)) ∧
            σ = [some (.ref a), some (.ref p), some (.ref q), some (.str start), some (.ref e), some (.ref u), some (.ref x), some (.int (i : Nat)), some (.ref p2), some (.ref th), some tv, some (.ref ma), y12, some (.ref wl), some (.ref b), y15, y16, y17, y18, y19, y20])
            ⟨G7, _, _, d, Same.refl _, hbG, hb, rfl⟩ (fun _ _ _ _ ⟨G', _, _, d, s7, _⟩ => .inl (.inl (d.at (s7 _ _ hwl)))) ?_ ?_
          · clear d hb0 s8 hb hbG
            rintro j v σ H9' H9 hj ⟨G9, y12, y15, d, s79, hbG, hb, rfl⟩ ⟨rfl, hx⟩
            rw [List.getElem?_map] at hx
            obtain ⟨z, hz, rfl⟩ := Option.map_eq_some_iff.mp hx
            walk_at "r"
            refine e_lst d.gr.gh rfl fun w1 G10 H10 g10 hw1 _ => ?_
            have hb10 := g10.same _ _ hb
            have hbG := g10.new _ hbG (by rw [hb]; intro z; cases z)
            have d := d.grow g10
            have s710 := s79.trans g10.gg
            walk_at "r"
            have hlen : (((fs.map (·.1)).take j).filter (bad lanes (lawT t 0).mach start ends)).length ≤ 8 := by
              refine Nat.le_trans (List.length_filter_le _ _) ?_
              rw [List.length_take, List.length_map]; omega
            refine ⟨q, e, w1, ma, start, z, ends, lawT t 0, G10, posts, lanes, rfl, d.gr.gh, hI.pa.mono d.gr.gg, hnet, d.gr.gg _ _ hI.en, hw1, hm.mono s710, hat, hst, fun hno H11 s11 => ?_, fun hyes n H11 s11 => ?_⟩
            · have d := d.same s11
              walk_at "r"
              refine ⟨rfl, ?_⟩
              walk_at "r"
              refine r_yes rfl ?_
              walk_at "r"
              refine r_tyL (s11 _ _ hb10) ?_
              walk_at "r"
              refine r_app (s11 _ _ hb10) (by rw [List.length_map]; exact small_lt (by omega)) ?_
              refine ⟨G10, _, _, d.mut hbG hbH, s710, hbG, ?_, rfl⟩
              show upd _ _ _ _ = _
              rw [upd_same, take_snoc hz, List.filter_append, List.map_append, List.filter_cons, if_pos (bad_t hno)]
              rfl
            · have d := d.same s11
              walk_at "r"
              refine ⟨rfl, ?_⟩
              walk_at "r"
              refine r_no rfl ?_
              refine ⟨G10, _, _, d, s710, hbG, ?_, rfl⟩
              show H11 b = _
              rw [s11 _ _ hb10, take_snoc hz, List.filter_append, List.filter_cons, if_neg (by rw [bad_f hyes]; exact Bool.false_ne_true), List.filter_nil, List.append_nil]
          · clear d hb0 s8 hb hbG
            rintro σ H9 ⟨G9, y12, y15, d, s79, hbG, hb, rfl⟩
            have hb : StrL H9 b ((fs.map (·.1)).filter (bad lanes (lawT t 0).mach start ends)) := by
              rw [List.length_map, List.take_length] at hb
              exact hb
            have d := d.tell hb hbH
            have sT := same_upd (o := .lst (((fs.map (·.1)).filter (bad lanes (lawT t 0).mach start ends)).map V.str)) hbG
            have hb : StrL (upd G9 b (.lst (((fs.map (·.1)).filter (bad lanes (lawT t 0).mach start ends)).map V.str))) b ((fs.map (·.1)).filter (bad lanes (lawT t 0).mach start ends)) := upd_same
            have s79 := s79.trans sT
            have hm := hm.mono s79
            have hth := hth.mono s79
            have hwl := s79 _ _ hwl
            revert d hb hm hth hwl
            generalize upd G9 b (.lst (((fs.map (·.1)).filter (bad lanes (lawT t 0).mach start ends)).map V.str)) = G10
            intro d hb hm hth hwl
            clear s79 sT hbG hbH
            walk_at "r"
            refine e_tupQ d.gr.gh (d.at hwl) fun wt G11 H11 g11 hwt _ => ?_
            have d := d.grow g11
            walk_at "r"
            refine e_lst d.gr.gh rfl fun w2 G12 H12 g12 hw2 _ => ?_
            have d := d.grow g12
            have s12 := g11.gg.trans g12.gg
            have hb := s12 _ _ hb
            have hm := hm.mono s12
            have hth := hth.mono s12
            have hwl := s12 _ _ hwl
            have hwt := g12.gg _ _ hwt
            walk_at "r"
            refine r_tk (mm := 2) d (by decide) (by decide) (by omega) fun r7 o7 hr7 d => ?_
            have pick : ∃ wx, [V.ref wl, .ref wt][r7]? = some (.ref wx) ∧ (StrL G12 wx (fs.map (·.1)) ∨ StrT G12 wx (fs.map (·.1))) := by
              match r7, hr7 with
              | 0, _ => exact ⟨wl, rfl, .inl hwl⟩
              | 1, _ => exact ⟨wt, rfl, .inr hwt⟩
            obtain ⟨wx, hwx1, hwx⟩ := pick
            refine r_ixL (d.at hw2) hwx1 ?_
            clear hwx1 hw2 hwt s12 g11 g12
            revert d
            generalize upd H12 p2 o7 = H13
            intro d
            walk_at "r"
            refine ⟨x, wx, th, start, G12, posts, ends, fs.map (·.1), lanes, t, rfl, d.gr.gh, hI.co.mono d.gr.gg, hnet, hst, hen, hwx, hfu, by rw [List.length_map]; omega, hth, by omega, by omega, by omega, hat2, fun r8 Lr rs H14 s14 hLr0 hr80 hr8 hLr hrs hnd => ?_, fun pre post w r8 H14 ews hpre hno s14 hr80 hr8 => ?_⟩
            · have d13 := d
              have d := d.same s14
              have hav : ∀ z ∈ fs.map (·.1), ∃ R, Avoid lanes (lawT t 0).mach start ends z R := fun z hz => by
                obtain ⟨j, hj⟩ := List.mem_iff_getElem?.mp hz
                obtain ⟨v, hv, l, R, _, _, _, _, _, hR⟩ := hrs.at' hj
                exact ⟨R, by rw [hM]; exact hR⟩
              rw [List.filter_eq_nil_iff.mpr (fun z hz => by rw [bad_f (hav z hz)]; exact Bool.false_ne_true)] at hb
              refine r_gtup hr8 rfl ?_
              walk_at "r"
              refine h_lst rfl fun l15 H15 s15 hl15 _ => ?_
              have d := d.same s15
              refine r_eqNilS (zs := []) (d.at hb) (by simp) hl15 ?_
              refine ⟨_, rfl, ?_⟩
              refine r_yes rfl ?_
              walk_at "r"
              refine ⟨rfl, ?_⟩
              refine ⟨_, rfl, ?_⟩
              refine r_no rfl ?_
              walk_at "r"
              have hI12 := hI.mono d.gr.gg
              refine ⟨q, e, wl, ma, Lr, start, ends, fs.map (·.1), rs, lawT t 0, H15, posts, lanes, rfl, Same.refl _, hI12.pa.mono d.gr.gh, hnet, d.at hI12.en, d.at hwl, hm.mono d.gr.gh, hat, s15 _ _ hLr, hrs.mono fun v z hz => ?_, by rw [List.length_map]; omega, fun H16 s16 => ?_⟩
              · obtain ⟨l, R, rfl, _, _, hl, _, hR⟩ := hz
                exact ⟨l, R, rfl, s15 _ _ hl, by rw [hM]; exact hR⟩
              · have d := d.same s16
                walk_at "r"
                refine e_tup d.gr.gh rfl fun bd G17 H17 g17 hbd _ => ?_
                have d := d.grow g17
                walk_at "r"
                have s017 := d.all s01 hp0
                have s1417 : Same H14 H17 := (s15.trans s16).trans g17.same
                refine ⟨_, rfl, _, rfl, hI.tb.ext s017, fun H18 eN T18 => ?_⟩
                have hI17 := hI.mono d.gr.gg
                have xG := noT_ext G17
                have sF : Same (noT G17) H18 := noT_same d.gr.gh eN
                have hrs18 : Seq2 (fun v w => ∃ l R, v = .ref l ∧ l ≠ Lr ∧ noT G17 l = none ∧ StrL H18 l (R.map (·.1)) ∧ Avoid lanes (lawT t 0).mach start ends w R) rs (fs.map (·.1)) := hrs.mono fun v z hz => by
                  obtain ⟨l, R, rfl, h1, h2, h3, _, hR⟩ := hz
                  have h4 : G17 l = none := g17.new _ (d13.free1 h2) (by rw [(s15.trans s16) _ _ h3]; intro z; cases z)
                  exact ⟨l, R, rfl, h1, noT_none h4, xn eN (s1417 _ _ h3), by rw [hM]; exact hR⟩
                have hoff : ∀ b o, noT G17 b = some o → V.ref b ∉ rs := fun b o e z => by
                  obtain ⟨j, hj⟩ := List.mem_iff_getElem?.mp z
                  obtain ⟨w, _, l, R, e1, _, e3, _⟩ := hrs18.at hj
                  cases e1
                  rw [e] at e3; cases e3
                have hrl : ∀ b, V.ref b ∈ rs → ∃ xs, H18 b = some (.lst xs) := fun b z => by
                  obtain ⟨j, hj⟩ := List.mem_iff_getElem?.mp z
                  obtain ⟨w, _, l, R, e1, _, _, e4, _⟩ := hrs18.at hj
                  cases e1
                  exact ⟨_, e4⟩
                have hwlF : StrL (noT G17) wl (fs.map (·.1)) := xn xG (g17.gg _ _ hwl)
                have hmF := (hm.mono g17.gg).ext xG
                have hthF := (hth.mono g17.gg).ext xG
                refine ⟨bd, q, e, wl, ma, Lr, start, ends, fs.map (·.1), rs, lawT t 0, noT G17, posts, lanes, rfl, rfl, sF, xn xG hbd, hI17.pa.ext xG, hnet, xn xG hI17.en, hwlF, hmF, hat, xn eN (s1417 _ _ hLr), hrs18, hnd, by rw [List.length_map]; omega, fun HZ Q' hOff hq => ?_, fun H19 hOff => ?_⟩
                · have sZ : Same (noT G17) HZ := fun b o e => hOff b o (hoff b o e) (sF _ _ e)
                  refine ⟨_, rfl, _, rfl, _, rfl, x, wl, th, start, noT G17, posts, ends, fs.map (·.1), lanes, t, rfl, sZ, hI17.co.ext xG, hnet, hst, hen, .inl hwlF, hfu, by rw [List.length_map]; omega, hthF, by omega, by omega, by omega, hat2, fun L2 rs2 H20 s20 _ hL2 hrs2 _ => ?_, fun pre post w dd H20 ews _ hno _ _ _ => ?_⟩
                  · refine hq L2 rs2 H20 s20 hL2 (hrs2.mono fun v z hz => ?_)
                    obtain ⟨l, R, rfl, _, _, h3, _, hR⟩ := hz
                    exact ⟨l, R, rfl, h3, by rw [hM]; exact hR⟩
                  · obtain ⟨R, hR⟩ := hav w (by rw [ews]; simp)
                    exact absurd ⟨R, hM ▸ hR⟩ hno
                · have s19 : Same (noT G17) H19 := fun b o e => hOff b o (hoff b o e) (sF _ _ e)
                  walk_at "r"
                  exact ⟨_, _, _, _, _, _, _, _, _, _, _, _, _, _, ⟨s19.seq (seqL_ext xG hI17.sc), (hI17.pa.ext xG).mono s19, (hI17.co.ext xG).mono s19, s19 _ _ (xn xG hI17.us), s19 _ _ (xn xG hI17.en), tabs_off T18 hOff fun b hb => .inr (hrl b hb)⟩, rfl⟩
            · have d := d.same s14
              refine r_gtup hr8 rfl ?_
              walk_at "r"
              refine h_lst rfl fun l15 H15 s15 hl15 _ => ?_
              have d := d.same s15
              obtain ⟨rest, hrest⟩ : ∃ rest, (fs.map (·.1)).filter (bad lanes (lawT t 0).mach start ends) = w :: rest := by
                rw [ews, List.filter_append, List.filter_cons, if_pos (bad_t (hM ▸ hno)), List.filter_eq_nil_iff.mpr (fun z hz => by rw [bad_f (hM ▸ hpre z hz)]; exact Bool.false_ne_true)]
                exact ⟨_, rfl⟩
              rw [hrest] at hb
              have hwm : w ∈ fs.map (·.1) := by rw [ews]; simp
              refine r_eqNilS (d.at hb) (fun z hz => hfnm z ?_) hl15 ?_
              · rw [← hrest] at hz
                exact (List.mem_filter.mp hz).1
              refine ⟨_, rfl, ?_⟩
              refine r_no rfl ?_
              walk_at "r"
              refine r_ixL0 (d.at hb) ?_
              refine r_ne rfl ?_
              refine ⟨_, rfl, ?_⟩
              refine r_no (by simp) ?_
              walk_at "r"
              refine ⟨p2, q, e, wl, start, fs, ends, G12, posts, lanes, _, rfl, d.gr.gh, d.gp, d.pl, by omega, hI.pa.mono d.gr.gg, hnet, d.gr.gg _ _ hI.en, hen3, hennm, hwl, fun y hy => (hus y (hfs y hy)).1, by omega, fun G16 H16 d16 => ?_, fun r9 rs G16 H16 d16 hr9 hrs => ?_⟩
              · have d := d.trans d16
                walk_at "r"
                refine ⟨rfl, ?_⟩
                refine ⟨_, rfl, ?_⟩
                refine r_no rfl ?_
                exact ⟨_, _, _, _, _, _, _, _, _, _, _, _, _, _, hI.mono (d.all s01 hp0), rfl⟩
              · have d := d.trans d16
                have hm := hm.mono d16.gr.gg
                walk_at "r"
                refine ⟨rfl, ?_⟩
                refine ⟨_, rfl, ?_⟩
                refine r_yes rfl ?_
                walk_at "r"
                refine ⟨r9, rfl, ⟨_, .inl (.inl (d.at hr9))⟩, fun Dl hD => ?_⟩
                have hD0 := d.free hD
                have hDG := d.free1 hD
                have hl9 : rs.length ≤ 8 := by rw [hrs.1]; exact hf8
                refine lc_it (walk_list (xs := rs)) (fun j H' => ∃ vs : List V, Dg p2 (2002 + 10000) H0 H1 G16 H' ∧ H' Dl = some (.lst vs) ∧ vs.length ≤ j ∧ (∀ v ∈ vs, ∃ l zs, v = .ref l ∧ StrL G16 l zs ∧ ∀ z ∈ zs, IsNm z) ∧ (pre.length < j → vs ≠ []))
                  ⟨[], (d.newH hD).mono (by omega), upd_same, Nat.zero_le _, by simp, fun z => absurd z (Nat.not_lt_zero _)⟩ (fun _ _ _ ⟨_, d, _⟩ => .inl (.inl (d.at hr9))) ?_ ?_
                · rintro j v H17' H17 hj ⟨vs, d, hDl, hvl, hvs, hvn⟩ ⟨rfl, hx⟩
                  obtain ⟨y, hy, l, R, z, rfl, hl, hw, hz, hR1, hR2⟩ := hrs.at hx
                  walk_at "r"
                  refine ⟨rfl, ?_⟩
                  walk_at "r"
                  refine ⟨l, ma, R.map (·.1), lawT t 0, rfl, d.at hl, hm.mono d.gr.gh, by omega, fun H18 s18 => ?_⟩
                  have d := d.same s18
                  have hDl := s18 _ _ hDl
                  have hRn : ∀ z ∈ R.map (·.1), IsNm z := fun z hz => by
                    obtain ⟨x, hx, rfl⟩ := List.mem_map.mp hz
                    exact hnet.ln.nm _ (List.mem_map_of_mem (hw.1 x hx))
                  have key : j = pre.length → ((lawT t 0).opt || !quietN (lawT t 0).mach [] (R.map (·.1))) = true := fun ej => by
                    cases ef : ((lawT t 0).opt || !quietN (lawT t 0).mach [] (R.map (·.1))) with
                    | true => rfl
                    | false =>
                      obtain ⟨f1, f2⟩ := Bool.or_eq_false_iff.mp ef
                      have ey : y.1 = w := by
                        have h1 : (fs.map (·.1))[j]? = some y.1 := by rw [List.getElem?_map, hy]; rfl
                        rw [ews, ej, List.getElem?_append_right (Nat.le_refl _), Nat.sub_self] at h1
                        exact (Option.some.inj h1).symm
                      refine absurd ⟨R, ?_⟩ hno
                      rw [← hM, ← ey]
                      exact ⟨f1, hw.1, ⟨z, hw.2, hz⟩, hR2, by rw [quiet_names]; simpa using f2⟩
                  walk_at "r"
                  by_cases cb : ((lawT t 0).opt || !quietN (lawT t 0).mach [] (R.map (·.1))) = true
                  · refine r_yes cb ?_
                    walk_at "r"
                    refine ⟨vs, hDl, small_lt (by omega), vs ++ [.ref l], d.mut hDG hD0, upd_same, by rw [List.length_append]; exact Nat.succ_le_succ hvl, fun v hv => ?_, fun _ z => by simp at z⟩
                    rcases List.mem_append.mp hv with hv | hv
                    · exact hvs v hv
                    · rw [List.mem_singleton.mp hv]
                      exact ⟨l, _, rfl, hl, hRn⟩
                  · refine r_no (by simpa using cb) ?_
                    refine ⟨vs, d, hDl, by omega, hvs, fun hj2 => ?_⟩
                    by_cases ej : j = pre.length
                    · exact absurd (key ej) cb
                    · exact hvn (by omega)
                · rintro H17 ⟨vs, d, hDl, hvl, hvs, hvn⟩
                  have hvn : vs ≠ [] := hvn (by
                    have h1 : pre.length < (fs.map (·.1)).length := by rw [ews, List.length_append, List.length_cons]; omega
                    rw [List.length_map] at h1
                    rw [hrs.1]; exact h1)
                  obtain ⟨ds, hds, hdk⟩ := dp_runs (K := K) (H := H17) (vs := vs) fun v hv => by
                    obtain ⟨l, zs, e1, e2, e3⟩ := hvs v hv
                    exact ⟨l, zs, e1, d.at e2, e3⟩
                  walk_at "r"
                  refine h_lst rfl fun l18 H18 s18 hl18 _ => ?_
                  have d := d.same s18
                  refine r_eqNil (s18 _ _ hDl) (DpAll.mono s18 hds) hdk (by decide) hl18 ?_
                  refine ⟨_, rfl, ?_⟩
                  refine r_no (by cases vs <;> simp_all) ?_
                  exact ⟨_, _, _, _, _, _, _, _, _, _, _, _, _, _, hI.mono (d.all s01 hp0), rfl⟩
      · rintro σ H9 _
        walk_at "r"
        exact k _
  refine fn_of lk hcd sc_law (fun vs H Q E h => ?_) fun A outer s H vs Q E hr h => ?_
  · obtain ⟨a, ns, rfl, _⟩ := h
    rfl
  · obtain ⟨t, h1, h2⟩ := main A outer s H vs Q E hr h
    exact ⟨t, h1.nox, h2⟩
end
end K48
/-! ## KHB -/
set_option maxHeartbeats 4000000
namespace K48
open PySem PySem.Spec PyProof.Rows L2
/-! ### what the facts say of each def -/
section
variable {P : Program} {w : World} {K : PySem.W.Frag} {mg : Str → Option Value} {base h : Heap}
theorem dn_of (X : K.In h) (G : h.Ns mainGlobals mg) {x : Str} {st : Stmt} {fd : FuncData} {kws : List (Str × V)} (F : FunD K x x (defArgs st) (defBody st) (defScope st) [] kws (He.ga K x) fd) (g : (He.Fa.glo x).ok K = true) : Dn K mg x st :=
  ⟨_, fd, He5.fun_of F, He.glo_ok X G g⟩
theorem mn_of {C : Addr} {c m qual : Str} {st : Stmt} {fd : FuncData} {kws : List (Str × V)} (F : FunD K m qual (defArgs st) (defBody st) (defScope st) [] kws (He.ma K (He.ga K c) m) fd) (g : (He.Fa.meth c m).ok K = true) : Mn K (He.ga K c) m qual st :=
  ⟨_, fd, He5.fun_of F, He.meth_ok g⟩
theorem sn_of {c m qual : Str} {st : Stmt} {fd : FuncData} {kws : List (Str × V)} (F : FunD K m qual (defArgs st) (defBody st) (defScope st) [] kws (He.ma K (He.ga K c) m) fd) (g : (He.Fa.meth c m).ok K = true) (s : PySem.W.selfFirst K (He.ga K c) = true) : Sn K (He.ga K c) m qual st :=
  ⟨_, fd, He5.fun_of F, s, (He.meth_ok g).at_, (He.meth_ok g).fn⟩
theorem in_of (X : K.In h) (G : h.Ns mainGlobals mg) {c qual : Str} {st : Stmt} {fd : FuncData} {kws : List (Str × V)} (F : FunD K "__init__" qual (defArgs st) (defBody st) (defScope st) [] kws (He.ma K (He.ga K c) "__init__") fd) (g : (He.Fa.mkr c).ok K = true) (g2 : (He.Fa.glo c).ok K = true) : In K mg c (He.ga K c) qual st :=
  ⟨_, fd, He5.fun_of F, He.mkr_ok g, He.glo_ok X G g2⟩
theorem pn_of {c m qual : Str} {st : Stmt} {fd : FuncData} {kws : List (Str × V)} (F : FunD K m qual (defArgs st) (defBody st) (defScope st) [] kws (propG K (He.ga K c) m) fd) (g : propB K (He.ga K c) m = true) : Pn K (He.ga K c) m qual st :=
  ⟨_, _, fd, He5.fun_of F, propB_ok g⟩
theorem f_first_missing (X : K.In h) (G : h.Ns mainGlobals mg) (c : He5.SaysA faL fnL K) : Dn K mg "first_missing" (topS 26) := by
  obtain ⟨fd, F⟩ := c.def_ 0 (d := d_first_missing) rfl
  exact dn_of X G F (c.fact 0 (f := .glo "first_missing") rfl)
theorem f_is_name (X : K.In h) (G : h.Ns mainGlobals mg) (c : He5.SaysA faL fnL K) : Dn K mg "is_name" (topS 23) := by
  obtain ⟨fd, F⟩ := c.def_ 1 (d := d_is_name) rfl
  exact dn_of X G F (c.fact 1 (f := .glo "is_name") rfl)
theorem f_check_lanes (X : K.In h) (G : h.Ns mainGlobals mg) (c : He5.SaysA faL fnL K) : Dn K mg "check_lanes" (topS 47) := by
  obtain ⟨fd, F⟩ := c.def_ 2 (d := d_check_lanes) rfl
  exact dn_of X G F (c.fact 2 (f := .glo "check_lanes") rfl)
theorem f_crossed (X : K.In h) (G : h.Ns mainGlobals mg) (c : He5.SaysA faL fnL K) : Dn K mg "crossed" (topS 17) := by
  obtain ⟨fd, F⟩ := c.def_ 3 (d := d_crossed) rfl
  exact dn_of X G F (c.fact 3 (f := .glo "crossed") rfl)
theorem f_read_tree (X : K.In h) (G : h.Ns mainGlobals mg) (c : He5.SaysA faL fnL K) : Dn K mg "read_tree" (topS 16) := by
  obtain ⟨fd, F⟩ := c.def_ 4 (d := d_read_tree) rfl
  exact dn_of X G F (c.fact 4 (f := .glo "read_tree") rfl)
theorem f_made_machine (X : K.In h) (G : h.Ns mainGlobals mg) (c : He5.SaysA faL fnL K) : Dn K mg "made_machine" (topS 15) := by
  obtain ⟨fd, F⟩ := c.def_ 5 (d := d_made_machine) rfl
  exact dn_of X G F (c.fact 5 (f := .glo "made_machine") rfl)
theorem f_joined (X : K.In h) (G : h.Ns mainGlobals mg) (c : He5.SaysA faL fnL K) : Dn K mg "joined" (topS 49) := by
  obtain ⟨fd, F⟩ := c.def_ 6 (d := d_joined) rfl
  exact dn_of X G F (c.fact 6 (f := .glo "joined") rfl)
theorem f_repeated (X : K.In h) (G : h.Ns mainGlobals mg) (c : He5.SaysA faL fnL K) : Dn K mg "repeated" (topS 59) := by
  obtain ⟨fd, F⟩ := c.def_ 7 (d := d_repeated) rfl
  exact dn_of X G F (c.fact 7 (f := .glo "repeated") rfl)
theorem f_optional (X : K.In h) (G : h.Ns mainGlobals mg) (c : He5.SaysA faL fnL K) : Dn K mg "optional" (topS 60) := by
  obtain ⟨fd, F⟩ := c.def_ 8 (d := d_optional) rfl
  exact dn_of X G F (c.fact 8 (f := .glo "optional") rfl)
theorem f_any_of (X : K.In h) (G : h.Ns mainGlobals mg) (c : He5.SaysA faL fnL K) : Dn K mg "any_of" (topS 56) := by
  obtain ⟨fd, F⟩ := c.def_ 9 (d := d_any_of) rfl
  exact dn_of X G F (c.fact 9 (f := .glo "any_of") rfl)
theorem f_none_of (X : K.In h) (G : h.Ns mainGlobals mg) (c : He5.SaysA faL fnL K) : Dn K mg "none_of" (topS 57) := by
  obtain ⟨fd, F⟩ := c.def_ 10 (d := d_none_of) rfl
  exact dn_of X G F (c.fact 10 (f := .glo "none_of") rfl)
theorem f_word_pattern (X : K.In h) (G : h.Ns mainGlobals mg) (c : He5.SaysA faL fnL K) : Dn K mg "word_pattern" (topS 58) := by
  obtain ⟨fd, F⟩ := c.def_ 11 (d := d_word_pattern) rfl
  exact dn_of X G F (c.fact 11 (f := .glo "word_pattern") rfl)
theorem f_as_pattern (X : K.In h) (G : h.Ns mainGlobals mg) (c : He5.SaysA faL fnL K) : Dn K mg "as_pattern" (topS 61) := by
  obtain ⟨fd, F⟩ := c.def_ 12 (d := d_as_pattern) rfl
  exact dn_of X G F (c.fact 12 (f := .glo "as_pattern") rfl)
theorem f_machine_of (X : K.In h) (G : h.Ns mainGlobals mg) (c : He5.SaysA faL fnL K) : Dn K mg "machine_of" (topS 62) := by
  obtain ⟨fd, F⟩ := c.def_ 13 (d := d_machine_of) rfl
  exact dn_of X G F (c.fact 13 (f := .glo "machine_of") rfl)
theorem f_reached_posts (X : K.In h) (G : h.Ns mainGlobals mg) (c : He5.SaysA faL fnL K) : Dn K mg "reached_posts" (topS 33) := by
  obtain ⟨fd, F⟩ := c.def_ 14 (d := d_reached_posts) rfl
  exact dn_of X G F (c.fact 14 (f := .glo "reached_posts") rfl)
theorem f_posts_before (X : K.In h) (G : h.Ns mainGlobals mg) (c : He5.SaysA faL fnL K) : Dn K mg "posts_before" (topS 65) := by
  obtain ⟨fd, F⟩ := c.def_ 15 (d := d_posts_before) rfl
  exact dn_of X G F (c.fact 15 (f := .glo "posts_before") rfl)
theorem f_lanes_of (X : K.In h) (G : h.Ns mainGlobals mg) (c : He5.SaysA faL fnL K) : Dn K mg "lanes_of" (topS 66) := by
  obtain ⟨fd, F⟩ := c.def_ 16 (d := d_lanes_of) rfl
  exact dn_of X G F (c.fact 16 (f := .glo "lanes_of") rfl)
theorem f_check_known (X : K.In h) (G : h.Ns mainGlobals mg) (c : He5.SaysA faL fnL K) : Dn K mg "check_known" (topS 67) := by
  obtain ⟨fd, F⟩ := c.def_ 17 (d := d_check_known) rfl
  exact dn_of X G F (c.fact 17 (f := .glo "check_known") rfl)
theorem f_check_used (X : K.In h) (G : h.Ns mainGlobals mg) (c : He5.SaysA faL fnL K) : Dn K mg "check_used" (topS 68) := by
  obtain ⟨fd, F⟩ := c.def_ 18 (d := d_check_used) rfl
  exact dn_of X G F (c.fact 18 (f := .glo "check_used") rfl)
theorem f_shortest_run (X : K.In h) (G : h.Ns mainGlobals mg) (c : He5.SaysA faL fnL K) : Dn K mg "shortest_run" (topS 69) := by
  obtain ⟨fd, F⟩ := c.def_ 19 (d := d_shortest_run) rfl
  exact dn_of X G F (c.fact 19 (f := .glo "shortest_run") rfl)
theorem f_suite (X : K.In h) (G : h.Ns mainGlobals mg) (c : He5.SaysA faL fnL K) : Dn K mg "suite" (topS 70) := by
  obtain ⟨fd, F⟩ := c.def_ 20 (d := d_suite) rfl
  exact dn_of X G F (c.fact 20 (f := .glo "suite") rfl)
theorem f__law_cell (X : K.In h) (G : h.Ns mainGlobals mg) (c : He5.SaysA faL fnL K) : Dn K mg "_law_cell" (topS 72) := by
  obtain ⟨fd, F⟩ := c.def_ 21 (d := d__law_cell) rfl
  exact dn_of X G F (c.fact 21 (f := .glo "_law_cell") rfl)
theorem f__law_pool (X : K.In h) (G : h.Ns mainGlobals mg) (c : He5.SaysA faL fnL K) : Dn K mg "_law_pool" (topS 73) := by
  obtain ⟨fd, F⟩ := c.def_ 22 (d := d__law_pool) rfl
  exact dn_of X G F (c.fact 22 (f := .glo "_law_pool") rfl)
theorem f__law_take (X : K.In h) (G : h.Ns mainGlobals mg) (c : He5.SaysA faL fnL K) : Dn K mg "_law_take" (topS 74) := by
  obtain ⟨fd, F⟩ := c.def_ 23 (d := d__law_take) rfl
  exact dn_of X G F (c.fact 23 (f := .glo "_law_take") rfl)
theorem f__law_many (X : K.In h) (G : h.Ns mainGlobals mg) (c : He5.SaysA faL fnL K) : Dn K mg "_law_many" (topS 75) := by
  obtain ⟨fd, F⟩ := c.def_ 24 (d := d__law_many) rfl
  exact dn_of X G F (c.fact 24 (f := .glo "_law_many") rfl)
theorem f__law_mixed (X : K.In h) (G : h.Ns mainGlobals mg) (c : He5.SaysA faL fnL K) : Dn K mg "_law_mixed" (topS 76) := by
  obtain ⟨fd, F⟩ := c.def_ 25 (d := d__law_mixed) rfl
  exact dn_of X G F (c.fact 25 (f := .glo "_law_mixed") rfl)
theorem f__law_line_net (X : K.In h) (G : h.Ns mainGlobals mg) (c : He5.SaysA faL fnL K) : Dn K mg "_law_line_net" (topS 77) := by
  obtain ⟨fd, F⟩ := c.def_ 26 (d := d__law_line_net) rfl
  exact dn_of X G F (c.fact 26 (f := .glo "_law_line_net") rfl)
theorem f__law_built (X : K.In h) (G : h.Ns mainGlobals mg) (c : He5.SaysA faL fnL K) : Dn K mg "_law_built" (topS 78) := by
  obtain ⟨fd, F⟩ := c.def_ 27 (d := d__law_built) rfl
  exact dn_of X G F (c.fact 27 (f := .glo "_law_built") rfl)
theorem f__law_ends (X : K.In h) (G : h.Ns mainGlobals mg) (c : He5.SaysA faL fnL K) : Dn K mg "_law_ends" (topS 79) := by
  obtain ⟨fd, F⟩ := c.def_ 28 (d := d__law_ends) rfl
  exact dn_of X G F (c.fact 28 (f := .glo "_law_ends") rfl)
theorem f__law_ways (X : K.In h) (G : h.Ns mainGlobals mg) (c : He5.SaysA faL fnL K) : Dn K mg "_law_ways" (topS 80) := by
  obtain ⟨fd, F⟩ := c.def_ 29 (d := d__law_ways) rfl
  exact dn_of X G F (c.fact 29 (f := .glo "_law_ways") rfl)
theorem f__law_course (X : K.In h) (G : h.Ns mainGlobals mg) (c : He5.SaysA faL fnL K) : Dn K mg "_law_course" (topS 81) := by
  obtain ⟨fd, F⟩ := c.def_ 30 (d := d__law_course) rfl
  exact dn_of X G F (c.fact 30 (f := .glo "_law_course") rfl)
theorem f__law_lanes (X : K.In h) (G : h.Ns mainGlobals mg) (c : He5.SaysA faL fnL K) : Dn K mg "_law_lanes" (topS 82) := by
  obtain ⟨fd, F⟩ := c.def_ 31 (d := d__law_lanes) rfl
  exact dn_of X G F (c.fact 31 (f := .glo "_law_lanes") rfl)
theorem f__law_tree (X : K.In h) (G : h.Ns mainGlobals mg) (c : He5.SaysA faL fnL K) : Dn K mg "_law_tree" (topS 83) := by
  obtain ⟨fd, F⟩ := c.def_ 32 (d := d__law_tree) rfl
  exact dn_of X G F (c.fact 32 (f := .glo "_law_tree") rfl)
theorem f__law_atom (X : K.In h) (G : h.Ns mainGlobals mg) (c : He5.SaysA faL fnL K) : Dn K mg "_law_atom" (topS 84) := by
  obtain ⟨fd, F⟩ := c.def_ 33 (d := d__law_atom) rfl
  exact dn_of X G F (c.fact 33 (f := .glo "_law_atom") rfl)
theorem f__law_pattern (X : K.In h) (G : h.Ns mainGlobals mg) (c : He5.SaysA faL fnL K) : Dn K mg "_law_pattern" (topS 85) := by
  obtain ⟨fd, F⟩ := c.def_ 34 (d := d__law_pattern) rfl
  exact dn_of X G F (c.fact 34 (f := .glo "_law_pattern") rfl)
theorem f__law_machine (X : K.In h) (G : h.Ns mainGlobals mg) (c : He5.SaysA faL fnL K) : Dn K mg "_law_machine" (topS 86) := by
  obtain ⟨fd, F⟩ := c.def_ 35 (d := d__law_machine) rfl
  exact dn_of X G F (c.fact 35 (f := .glo "_law_machine") rfl)
theorem f__law_crossed (X : K.In h) (G : h.Ns mainGlobals mg) (c : He5.SaysA faL fnL K) : Dn K mg "_law_crossed" (topS 87) := by
  obtain ⟨fd, F⟩ := c.def_ 36 (d := d__law_crossed) rfl
  exact dn_of X G F (c.fact 36 (f := .glo "_law_crossed") rfl)
theorem f__law_takes (X : K.In h) (G : h.Ns mainGlobals mg) (c : He5.SaysA faL fnL K) : Dn K mg "_law_takes" (topS 88) := by
  obtain ⟨fd, F⟩ := c.def_ 37 (d := d__law_takes) rfl
  exact dn_of X G F (c.fact 37 (f := .glo "_law_takes") rfl)
theorem f__law_led (X : K.In h) (G : h.Ns mainGlobals mg) (c : He5.SaysA faL fnL K) : Dn K mg "_law_led" (topS 89) := by
  obtain ⟨fd, F⟩ := c.def_ 38 (d := d__law_led) rfl
  exact dn_of X G F (c.fact 38 (f := .glo "_law_led") rfl)
theorem f__law_done (X : K.In h) (G : h.Ns mainGlobals mg) (c : He5.SaysA faL fnL K) : Dn K mg "_law_done" (topS 90) := by
  obtain ⟨fd, F⟩ := c.def_ 39 (d := d__law_done) rfl
  exact dn_of X G F (c.fact 39 (f := .glo "_law_done") rfl)
theorem f__law_row_tree (X : K.In h) (G : h.Ns mainGlobals mg) (c : He5.SaysA faL fnL K) : Dn K mg "_law_row_tree" (topS 91) := by
  obtain ⟨fd, F⟩ := c.def_ 40 (d := d__law_row_tree) rfl
  exact dn_of X G F (c.fact 40 (f := .glo "_law_row_tree") rfl)
theorem f__law_stretch (X : K.In h) (G : h.Ns mainGlobals mg) (c : He5.SaysA faL fnL K) : Dn K mg "_law_stretch" (topS 92) := by
  obtain ⟨fd, F⟩ := c.def_ 41 (d := d__law_stretch) rfl
  exact dn_of X G F (c.fact 41 (f := .glo "_law_stretch") rfl)
theorem f__law_asking (X : K.In h) (G : h.Ns mainGlobals mg) (c : He5.SaysA faL fnL K) : Dn K mg "_law_asking" (topS 93) := by
  obtain ⟨fd, F⟩ := c.def_ 42 (d := d__law_asking) rfl
  exact dn_of X G F (c.fact 42 (f := .glo "_law_asking") rfl)
theorem f__law_is_run (X : K.In h) (G : h.Ns mainGlobals mg) (c : He5.SaysA faL fnL K) : Dn K mg "_law_is_run" (topS 94) := by
  obtain ⟨fd, F⟩ := c.def_ 43 (d := d__law_is_run) rfl
  exact dn_of X G F (c.fact 43 (f := .glo "_law_is_run") rfl)
theorem f__law_used (X : K.In h) (G : h.Ns mainGlobals mg) (c : He5.SaysA faL fnL K) : Dn K mg "_law_used" (topS 95) := by
  obtain ⟨fd, F⟩ := c.def_ 44 (d := d__law_used) rfl
  exact dn_of X G F (c.fact 44 (f := .glo "_law_used") rfl)
theorem f__law_least_run (X : K.In h) (G : h.Ns mainGlobals mg) (c : He5.SaysA faL fnL K) : Dn K mg "_law_least_run" (topS 96) := by
  obtain ⟨fd, F⟩ := c.def_ 45 (d := d__law_least_run) rfl
  exact dn_of X G F (c.fact 45 (f := .glo "_law_least_run") rfl)
theorem f__law_drawn_run (X : K.In h) (G : h.Ns mainGlobals mg) (c : He5.SaysA faL fnL K) : Dn K mg "_law_drawn_run" (topS 97) := by
  obtain ⟨fd, F⟩ := c.def_ 46 (d := d__law_drawn_run) rfl
  exact dn_of X G F (c.fact 46 (f := .glo "_law_drawn_run") rfl)
theorem f__law_run_shows (X : K.In h) (G : h.Ns mainGlobals mg) (c : He5.SaysA faL fnL K) : Dn K mg "_law_run_shows" (topS 98) := by
  obtain ⟨fd, F⟩ := c.def_ 47 (d := d__law_run_shows) rfl
  exact dn_of X G F (c.fact 47 (f := .glo "_law_run_shows") rfl)
theorem f__law_told (X : K.In h) (G : h.Ns mainGlobals mg) (c : He5.SaysA faL fnL K) : Dn K mg "_law_told" (topS 99) := by
  obtain ⟨fd, F⟩ := c.def_ 48 (d := d__law_told) rfl
  exact dn_of X G F (c.fact 48 (f := .glo "_law_told") rfl)
theorem f__law_lot (X : K.In h) (G : h.Ns mainGlobals mg) (c : He5.SaysA faL fnL K) : Dn K mg "_law_lot" (topS 100) := by
  obtain ⟨fd, F⟩ := c.def_ 49 (d := d__law_lot) rfl
  exact dn_of X G F (c.fact 49 (f := .glo "_law_lot") rfl)
theorem f__law_right (X : K.In h) (G : h.Ns mainGlobals mg) (c : He5.SaysA faL fnL K) : Dn K mg "_law_right" (topS 101) := by
  obtain ⟨fd, F⟩ := c.def_ 50 (d := d__law_right) rfl
  exact dn_of X G F (c.fact 50 (f := .glo "_law_right") rfl)
theorem f__law_emptied (X : K.In h) (G : h.Ns mainGlobals mg) (c : He5.SaysA faL fnL K) : Dn K mg "_law_emptied" (topS 102) := by
  obtain ⟨fd, F⟩ := c.def_ 51 (d := d__law_emptied) rfl
  exact dn_of X G F (c.fact 51 (f := .glo "_law_emptied") rfl)
theorem f_law (X : K.In h) (G : h.Ns mainGlobals mg) (c : He5.SaysA faL fnL K) : Dn K mg "law" (topS 103) := by
  obtain ⟨fd, F⟩ := c.def_ 52 (d := d_law) rfl
  exact dn_of X G F (c.fact 52 (f := .glo "law") rfl)
theorem f_Machine_takes (c : He5.SaysA faL fnL K) : Mn K (He.ga K "Machine") "takes" "Machine.takes" (inClass (topS 14) 1) := by
  obtain ⟨fd, F⟩ := c.def_ 53 (d := d_Machine_takes) rfl
  exact mn_of (C := He.ga K "Machine") F (c.fact 89 (f := .meth "Machine" "takes") rfl)
theorem f_Machine_is_behind (c : He5.SaysA faL fnL K) : Mn K (He.ga K "Machine") "is_behind" "Machine.is_behind" (inClass (topS 14) 3) := by
  obtain ⟨fd, F⟩ := c.def_ 54 (d := d_Machine_is_behind) rfl
  exact mn_of (C := He.ga K "Machine") F (c.fact 90 (f := .meth "Machine" "is_behind") rfl)
theorem f_Machine_is_done (c : He5.SaysA faL fnL K) : Mn K (He.ga K "Machine") "is_done" "Machine.is_done" (inClass (topS 14) 6) := by
  obtain ⟨fd, F⟩ := c.def_ 55 (d := d_Machine_is_done) rfl
  exact mn_of (C := He.ga K "Machine") F (c.fact 91 (f := .meth "Machine" "is_done") rfl)
theorem f_Machine_begun (c : He5.SaysA faL fnL K) : Mn K (He.ga K "Machine") "begun" "Machine.begun" (inClass (topS 14) 4) := by
  obtain ⟨fd, F⟩ := c.def_ 56 (d := d_Machine_begun) rfl
  exact mn_of (C := He.ga K "Machine") F (c.fact 92 (f := .meth "Machine" "begun") rfl)
theorem f_Net_start_of (c : He5.SaysA faL fnL K) : Mn K (He.ga K "Net") "start_of" "Net.start_of" (inClass (topS 30) 5) := by
  obtain ⟨fd, F⟩ := c.def_ 57 (d := d_Net_start_of) rfl
  exact mn_of (C := He.ga K "Net") F (c.fact 93 (f := .meth "Net" "start_of") rfl)
theorem f_Net_end_of (c : He5.SaysA faL fnL K) : Mn K (He.ga K "Net") "end_of" "Net.end_of" (inClass (topS 30) 6) := by
  obtain ⟨fd, F⟩ := c.def_ 58 (d := d_Net_end_of) rfl
  exact mn_of (C := He.ga K "Net") F (c.fact 94 (f := .meth "Net" "end_of") rfl)
theorem f_Net_out_of (c : He5.SaysA faL fnL K) : Mn K (He.ga K "Net") "out_of" "Net.out_of" (inClass (topS 30) 7) := by
  obtain ⟨fd, F⟩ := c.def_ 59 (d := d_Net_out_of) rfl
  exact mn_of (C := He.ga K "Net") F (c.fact 95 (f := .meth "Net" "out_of") rfl)
theorem f_Net_copy (c : He5.SaysA faL fnL K) : Mn K (He.ga K "Net") "copy" "Net.copy" (inClass (topS 30) 8) := by
  obtain ⟨fd, F⟩ := c.def_ 60 (d := d_Net_copy) rfl
  exact mn_of (C := He.ga K "Net") F (c.fact 96 (f := .meth "Net" "copy") rfl)
theorem f_Net_post (c : He5.SaysA faL fnL K) : Mn K (He.ga K "Net") "post" "Net.post" (inClass (topS 30) 3) := by
  obtain ⟨fd, F⟩ := c.def_ 61 (d := d_Net_post) rfl
  exact mn_of (C := He.ga K "Net") F (c.fact 97 (f := .meth "Net" "post") rfl)
theorem f_Net_lane (c : He5.SaysA faL fnL K) : Mn K (He.ga K "Net") "lane" "Net.lane" (inClass (topS 30) 4) := by
  obtain ⟨fd, F⟩ := c.def_ 62 (d := d_Net_lane) rfl
  exact mn_of (C := He.ga K "Net") F (c.fact 98 (f := .meth "Net" "lane") rfl)
theorem f_Pattern_add (c : He5.SaysA faL fnL K) (e : exB K = true) : Sn K (He.ga K "Pattern") "__add__" "Pattern.__add__" (inClass (topS 55) 6) := by
  obtain ⟨fd, F⟩ := c.def_ 63 (d := d_Pattern_add) rfl
  exact sn_of F (c.fact 99 (f := .meth "Pattern" "__add__") rfl) (exB_at e 2 rfl)
theorem f_Pattern_or (c : He5.SaysA faL fnL K) (e : exB K = true) : Sn K (He.ga K "Pattern") "__or__" "Pattern.__or__" (inClass (topS 55) 7) := by
  obtain ⟨fd, F⟩ := c.def_ 64 (d := d_Pattern_or) rfl
  exact sn_of F (c.fact 100 (f := .meth "Pattern" "__or__") rfl) (exB_at e 2 rfl)
theorem f_Net_neg (c : He5.SaysA faL fnL K) (e : exB K = true) : Sn K (He.ga K "Net") "__neg__" "Net.__neg__" (inClass (topS 30) 17) := by
  obtain ⟨fd, F⟩ := c.def_ 65 (d := d_Net_neg) rfl
  exact sn_of F (c.fact 101 (f := .meth "Net" "__neg__") rfl) (exB_at e 3 rfl)
theorem f_Machine_init (X : K.In h) (G : h.Ns mainGlobals mg) (c : He5.SaysA faL fnL K) : In K mg "Machine" (He.ga K "Machine") "Machine.__init__" (inClass (topS 14) 0) := by
  obtain ⟨fd, F⟩ := c.def_ 66 (d := d_Machine_init) rfl
  exact in_of X G F (c.fact 102 (f := .mkr "Machine") rfl) (c.fact 53 (f := .glo "Machine") rfl)
theorem f_Pattern_init (X : K.In h) (G : h.Ns mainGlobals mg) (c : He5.SaysA faL fnL K) : In K mg "Pattern" (He.ga K "Pattern") "Pattern.__init__" (inClass (topS 55) 0) := by
  obtain ⟨fd, F⟩ := c.def_ 67 (d := d_Pattern_init) rfl
  exact in_of X G F (c.fact 103 (f := .mkr "Pattern") rfl) (c.fact 54 (f := .glo "Pattern") rfl)
theorem f_Course_init (X : K.In h) (G : h.Ns mainGlobals mg) (c : He5.SaysA faL fnL K) : In K mg "Course" (He.ga K "Course") "Course.__init__" (inClass (topS 64) 0) := by
  obtain ⟨fd, F⟩ := c.def_ 68 (d := d_Course_init) rfl
  exact in_of X G F (c.fact 104 (f := .mkr "Course") rfl) (c.fact 56 (f := .glo "Course") rfl)
theorem f_Net_posts (c : He5.SaysA faL fnL K) (e : exB K = true) : Pn K (He.ga K "Net") "posts" "Net.posts" (inClass (topS 30) 1) := by
  obtain ⟨fd, F⟩ := c.def_ 71 (d := d_Net_posts) rfl
  exact pn_of F (exB_at e 0 rfl)
theorem f_Net_lanes (c : He5.SaysA faL fnL K) (e : exB K = true) : Pn K (He.ga K "Net") "lanes" "Net.lanes" (inClass (topS 30) 2) := by
  obtain ⟨fd, F⟩ := c.def_ 72 (d := d_Net_lanes) rfl
  exact pn_of F (exB_at e 1 rfl)
theorem f_Net_init (X : K.In h) (G : h.Ns mainGlobals mg) (c : He5.SaysA faL fnL K) : InG K mg "Net" (He.ga K "Net") "Net.__init__" (inClass (topS 30) 0) ["self", "order", "ends_by_lane"] (aE K) := by
  obtain ⟨fd, F⟩ := c.def_ 69 (d := d_Net_init) rfl
  have hb : ∀ n j, n + (2 - j) = 3 → j ≤ 2 → ∃ ds, Vals (([.ref (aE K), .non] : List V).drop j) ds ∧ Binds K fd ["self", "order", "ends_by_lane"] ds := fun n j hn hj => by
    refine FunD.binds1 (dvs := [.ref (aE K), .non]) F n j (by simp) hn fun T kV doc pm an cdv ct us its hu hi => ?_
    match j, hj with
    | 0, _ =>
      obtain rfl : n = 1 := by omega
      match us, its, hu, hi with
      | [u], [i1, i2], _, _ => exact ⟨_, rfl, rfl⟩
    | 2, _ =>
      obtain rfl : n = 3 := by omega
      match us, its, hu, hi with
      | [u1, u2, u3], [i1, i2], _, _ => exact ⟨_, rfl, rfl⟩
    | 1, _ =>
      obtain rfl : n = 2 := by omega
      match us, its, hu, hi with
      | [u1, u2], [i1, i2], _, _ => exact ⟨_, rfl, rfl⟩
  obtain ⟨ds0, v0, b0⟩ := hb 3 2 rfl (Nat.le_refl _)
  obtain ⟨ds2, v2, b2⟩ := hb 1 0 rfl (Nat.zero_le _)
  cases v0
  cases v2 with
  | cons r1 v2 =>
    cases v2 with
    | cons r2 v2 =>
      cases v2
      obtain rfl := (show _ = Value.ref (aE K) from r1)
      obtain rfl := (show _ = Value.none from r2)
      obtain ⟨oc, od, dV, kV, doc, pm, an, cdv, ct, osl, rfl, lk, hcd, _, _⟩ := F.ex
      exact ⟨_, _, oc, od, dV, kV, doc, pm, an, cdv, ct, osl, rfl, lk, hcd, He.mkr_ok (c.fact 105 (f := .mkr "Net") rfl), He.glo_ok X G (c.fact 55 (f := .glo "Net") rfl), b0, b2⟩
theorem f_Brought (X : K.In h) (G : h.Ns mainGlobals mg) (c : He5.SaysA faL fnL K) (e : exB K = true) : BrC K mg (He.ga K "Brought") := by
  obtain ⟨fd, F⟩ := c.def_ 70 (d := d_Brought_init) rfl
  exact ⟨oexB_ok (exB_at e 7 rfl), He.noat_ok (c.fact 88 (f := .noat "Brought" "name") rfl), He.glo_ok X G (c.fact 57 (f := .glo "Brought") rfl), ⟨_, fd, He5.fun_of F, He.eqO_ok (exB_at e 9 rfl), of_decide_eq_true (exB_at e 10 rfl)⟩⟩
theorem f_BroughtX (c : He5.SaysA faL fnL K) (e : exB K = true) : BrX K (He.ga K "Brought") := ⟨xfB_ok (exB_at e 8 rfl), He.exm_ok (c.fact 106 (f := .exm "Brought" "Brought" true) rfl)⟩
theorem cf_Machine (c : He5.SaysA faL fnL K) : CF K (He.ga K "Machine") ["atoms", "firsts", "lasts", "pairs", "is_optional"] := by
  refine ⟨He.cls_ok (c.fact 73 (f := .cls "Machine") rfl), fun f hf => ?_⟩
  rcases List.mem_cons.mp hf with rfl | hf
  · exact He.noat_ok (c.fact 77 (f := .noat "Machine" "atoms") rfl)
  rcases List.mem_cons.mp hf with rfl | hf
  · exact He.noat_ok (c.fact 78 (f := .noat "Machine" "firsts") rfl)
  rcases List.mem_cons.mp hf with rfl | hf
  · exact He.noat_ok (c.fact 79 (f := .noat "Machine" "lasts") rfl)
  rcases List.mem_cons.mp hf with rfl | hf
  · exact He.noat_ok (c.fact 80 (f := .noat "Machine" "pairs") rfl)
  rw [List.mem_singleton.mp hf]
  exact He.noat_ok (c.fact 81 (f := .noat "Machine" "is_optional") rfl)
theorem cf_Pattern (c : He5.SaysA faL fnL K) : CF K (He.ga K "Pattern") ["tree"] := by
  refine ⟨He.cls_ok (c.fact 74 (f := .cls "Pattern") rfl), fun f hf => ?_⟩
  rw [List.mem_singleton.mp hf]
  exact He.noat_ok (c.fact 82 (f := .noat "Pattern" "tree") rfl)
theorem cf_Net (c : He5.SaysA faL fnL K) : CF K (He.ga K "Net") ["order", "ends_by_lane"] := by
  refine ⟨He.cls_ok (c.fact 75 (f := .cls "Net") rfl), fun f hf => ?_⟩
  rcases List.mem_cons.mp hf with rfl | hf
  · exact He.noat_ok (c.fact 83 (f := .noat "Net" "order") rfl)
  rw [List.mem_singleton.mp hf]
  exact He.noat_ok (c.fact 84 (f := .noat "Net" "ends_by_lane") rfl)
theorem cf_Course (c : He5.SaysA faL fnL K) : CF K (He.ga K "Course") ["base", "start", "ends"] := by
  refine ⟨He.cls_ok (c.fact 76 (f := .cls "Course") rfl), fun f hf => ?_⟩
  rcases List.mem_cons.mp hf with rfl | hf
  · exact He.noat_ok (c.fact 85 (f := .noat "Course" "base") rfl)
  rcases List.mem_cons.mp hf with rfl | hf
  · exact He.noat_ok (c.fact 86 (f := .noat "Course" "start") rfl)
  rw [List.mem_singleton.mp hf]
  exact He.noat_ok (c.fact 87 (f := .noat "Course" "ends") rfl)
theorem f_PC (X : K.In h) (G : h.Ns mainGlobals mg) (c : He5.SaysA faL fnL K) (e : exB K = true) : PC K mg (He.ga K "Pattern") :=
  ⟨cf_Pattern c, insB_ok (cf_Pattern c).cls (exB_at e 4 rfl), He.glo_ok X G (c.fact 54 (f := .glo "Pattern") rfl), of_decide_eq_true (exB_at e 5 rfl), of_decide_eq_true (exB_at e 6 rfl)⟩
theorem f_Top (X : K.In h) (G : h.Ns mainGlobals mg) (c : He5.SaysA faL fnL K) : Top K mg where
  b_len := He.free_ok X G (c.fact 58 (f := .free "len") rfl)
  b_range := He.free_ok X G (c.fact 59 (f := .free "range") rfl)
  b_any := He.free_ok X G (c.fact 60 (f := .free "any") rfl)
  b_all := He.free_ok X G (c.fact 61 (f := .free "all") rfl)
  b_tuple := He.free_ok X G (c.fact 62 (f := .free "tuple") rfl)
  b_list := He.free_ok X G (c.fact 63 (f := .free "list") rfl)
  b_dict := He.free_ok X G (c.fact 64 (f := .free "dict") rfl)
  b_int := He.free_ok X G (c.fact 65 (f := .free "int") rfl)
  b_str := He.free_ok X G (c.fact 66 (f := .free "str") rfl)
  b_isinstance := He.free_ok X G (c.fact 67 (f := .free "isinstance") rfl)
  b_enumerate := He.free_ok X G (c.fact 68 (f := .free "enumerate") rfl)
  b_zip := He.free_ok X G (c.fact 69 (f := .free "zip") rfl)
  g_LETTERS := by
    obtain ⟨t, e⟩ := He.str_ok X G (c.fact 70 (f := .str "LETTERS" "abcdefghijklmnopqrstuvwxyz") rfl)
    exact ⟨_, e, ⟨t, rfl⟩⟩
  g_DIGITS := by
    obtain ⟨t, e⟩ := He.str_ok X G (c.fact 71 (f := .str "DIGITS" "0123456789") rfl)
    exact ⟨_, e, ⟨t, rfl⟩⟩
  g_LONGEST := by
    obtain ⟨t, e⟩ := He.int_ok X G (c.fact 72 (f := .int "LONGEST" 8) rfl)
    exact ⟨_, e, ⟨t, rfl⟩⟩
end
end K48
/-! ## KHC -/
set_option maxHeartbeats 4000000
namespace K48
open PySem PySem.Spec PyProof.Rows L2
section
variable {P : Program} {w : World} {K : PySem.W.Frag} {mg : Str → Option Value} {h : Heap}
/-- from the head's facts to law's promise -/
theorem promise (base : Heap) (X : K.In h) (G : h.Ns mainGlobals mg) (c : He5.SaysA faL fnL K) (e : exB K = true) {f : Addr} {oc kV doc pm ct : Value} {od an : Option Addr} {osl : Array (Option Value)} {c0 tab : Addr}
    (lk : K.lookup f = some ⟨oc, od, .func (PySem.W.fnOf "law" "law" (defArgs st_law) (defBody st_law) (defScope st_law) .none kV doc pm an (.ref c0) ct), osl⟩) (hcd : PySem.W.codeIn K (.ref c0) "law" = true) (TB : LamX.TabB base mg c0 tab) :
    FnOk P w K mg base C8.CX0 21 f (PySem.W.fnOf "law" "law" (defArgs st_law) (defBody st_law) (defScope st_law) .none kV doc pm an (.ref c0) ct) ["_law_script"] (spLaw K tab) := by
  have T := f_Top X G c
  have cM := cf_Machine c
  have cN := cf_Net c
  have cC := cf_Course c
  have pc := f_PC X G c e
  have B := f_Brought X G c e
  have BX := f_BroughtX c e
  have hes := fun H => emptB_ok (exB_at e 11 rfl) H
  -- names
  have c_first_missing := ok_first_missing (P := P) (w := w) (base := base) T (f_first_missing X G c)
  have c_is_name := ok_is_name (P := P) (w := w) (base := base) T (f_is_name X G c)
  have c_check_lanes := ok_check_lanes (P := P) (w := w) (base := base) T (f_check_lanes X G c) c_is_name
  -- the law's small ones
  have c_cell := ok__law_cell (P := P) (w := w) (base := base) T (f__law_cell X G c)
  have c_pool := ok__law_pool (P := P) (w := w) (base := base) T (f__law_pool X G c)
  have c_take := ok__law_take (P := P) (w := w) (base := base) T (f__law_take X G c)
  have c_many := ok__law_many (P := P) (w := w) (base := base) T (f__law_many X G c) c_take
  have c_mixed := ok__law_mixed (P := P) (w := w) (base := base) T (f__law_mixed X G c) c_take
  have c_line := ok__law_line_net (P := P) (w := w) (base := base) T (f__law_line_net X G c) c_take c_many c_mixed
  have c_lcourse := ok__law_course (P := P) (w := w) (base := base) T (f__law_course X G c) c_take
  have c_lends := ok__law_ends (P := P) (w := w) (base := base) T (f__law_ends X G c)
  have c_llanes := ok__law_lanes (P := P) (w := w) (base := base) T (f__law_lanes X G c)
  have c_ltakes := ok__law_takes (P := P) (w := w) (base := base) T (f__law_takes X G c)
  have c_ldone := ok__law_done (P := P) (w := w) (base := base) T (f__law_done X G c)
  have c_lled := ok__law_led (P := P) (w := w) (base := base) T (f__law_led X G c) c_ltakes
  have c_lcrossed := ok__law_crossed (P := P) (w := w) (base := base) T (f__law_crossed X G c)
  have c_lmachine := ok__law_machine (P := P) (w := w) (base := base) T (f__law_machine X G c) c_lcrossed 5
  have c_lways := ok__law_ways (P := P) (w := w) (base := base) T (f__law_ways X G c)
  have c_lrow := ok__law_row_tree (P := P) (w := w) (base := base) T (f__law_row_tree X G c)
  have c_lshows := ok__law_run_shows (P := P) (w := w) (base := base) T (f__law_run_shows X G c) c_lled c_ldone
  have c_lisrun := ok__law_is_run (P := P) (w := w) (base := base) T (f__law_is_run X G c) c_lends
  have c_lused := ok__law_used (P := P) (w := w) (base := base) T (f__law_used X G c) c_lways
  have c_ltree := ok__law_tree (P := P) (w := w) (base := base) T (f__law_tree X G c) c_take 3
  have c_lstretch := ok__law_stretch (P := P) (w := w) (base := base) T (f__law_stretch X G c) c_take c_lends c_llanes
  have c_ldrawn := ok__law_drawn_run (P := P) (w := w) (base := base) T (f__law_drawn_run X G c) c_take c_lends c_lways
  have c_llot := ok__law_lot (P := P) (w := w) (base := base) T (f__law_lot X G c) c_ldrawn
  have c_lleast := ok__law_least_run (P := P) (w := w) (base := base) T (f__law_least_run X G c) c_lends c_lled c_ldone
  have c_lright := ok__law_right (P := P) (w := w) (base := base) T (f__law_right X G c) c_lisrun c_lshows
  -- machines
  have m_takes := ok_Machine_takes (P := P) (w := w) (base := base) T cM (f_Machine_takes c)
  have m_behind := ok_Machine_is_behind (P := P) (w := w) (base := base) T cM (f_Machine_is_behind c)
  have m_done := ok_Machine_is_done (P := P) (w := w) (base := base) T cM (f_Machine_is_done c)
  have m_begun := ok_Machine_begun (P := P) (w := w) (base := base) T cM (f_Machine_begun c) m_takes m_behind
  have c_crossed := ok_crossed (P := P) (w := w) (base := base) T (f_crossed X G c)
  have c_read := ok_read_tree (P := P) (w := w) (base := base) T (f_read_tree X G c) c_crossed 5
  have c_Machine := ok_Machine_init (P := P) (w := w) (base := base) T cM (f_Machine_init X G c)
  have c_made := ok_made_machine (P := P) (w := w) (base := base) (D := 5) T cM (f_made_machine X G c) c_read c_Machine
  -- patterns
  have c_joined := ok_joined (P := P) (w := w) (base := base) T (f_joined X G c)
  have c_Pattern := ok_Pattern_init (P := P) (w := w) (base := base) T pc (f_Pattern_init X G c)
  have c_add := ok_Pattern_add (P := P) (w := w) (base := base) T pc (f_Pattern_add c e) c_joined c_Pattern
  have c_or := ok_Pattern_or (P := P) (w := w) (base := base) T pc (f_Pattern_or c e) c_joined c_Pattern
  have c_repeated := ok_repeated (P := P) (w := w) (base := base) T pc (f_repeated X G c) c_Pattern
  have c_optional := ok_optional (P := P) (w := w) (base := base) T pc (f_optional X G c) c_Pattern
  have c_any := ok_any_of (P := P) (w := w) (base := base) T pc (f_any_of X G c) c_check_lanes c_Pattern
  have c_none := ok_none_of (P := P) (w := w) (base := base) T pc (f_none_of X G c) c_check_lanes c_Pattern
  have c_word := ok_word_pattern (P := P) (w := w) (base := base) T pc (f_word_pattern X G c) c_Pattern
  have c_as := ok_as_pattern (P := P) (w := w) (base := base) T pc (f_as_pattern X G c) c_check_lanes c_word
  have c_mof := ok_machine_of (P := P) (w := w) (base := base) (D := 5) T pc (f_machine_of X G c) c_as c_made
  have c_latom := ok__law_atom (P := P) (w := w) (base := base) T (f__law_atom X G c) c_any c_none
  have c_lpat := ok__law_pattern (P := P) (w := w) (base := base) T (f__law_pattern X G c) c_latom c_repeated c_optional c_or c_add 3
  have c_lasking := ok__law_asking (P := P) (w := w) (base := base) T (f__law_asking X G c) c_take c_lstretch c_lrow c_llanes (D1 := 3) (D2 := 3) (by decide) (by decide) (by decide) (by decide) c_ltree c_lpat
  -- nets
  have c_Net := ok_Net_init (P := P) (w := w) (base := base) T cN (f_Net_init X G c)
  have n_posts := ok_Net_posts (P := P) (w := w) (base := base) T cN (f_Net_posts c e)
  have n_lanes := ok_Net_lanes (P := P) (w := w) (base := base) T cN (f_Net_lanes c e)
  have n_start := ok_Net_start_of (P := P) (w := w) (base := base) T cN (f_Net_start_of c)
  have n_end := ok_Net_end_of (P := P) (w := w) (base := base) T cN (f_Net_end_of c)
  have n_out := ok_Net_out_of (P := P) (w := w) (base := base) T cN (f_Net_out_of c)
  have n_copy := ok_Net_copy (P := P) (w := w) (base := base) T cN (f_Net_copy c) c_Net.1
  have n_neg := ok_Net_neg (P := P) (w := w) (base := base) T cN (f_Net_neg c e) c_Net.1
  have c_reached := ok_reached_posts (P := P) (w := w) (base := base) T cN (f_reached_posts X G c)
  have c_before := ok_posts_before (P := P) (w := w) (base := base) T cN (f_posts_before X G c) n_neg c_reached
  have n_post := ok_Net_post (P := P) (w := w) (base := base) T cN (f_Net_post c) c_is_name
  have n_lane := ok_Net_lane (P := P) (w := w) (base := base) T cN (f_Net_lane c) c_is_name
  have c_lbuilt := ok__law_built (P := P) (w := w) (base := base) T cN hes (f__law_built X G c) c_Net.2 n_post n_lane
  -- courses
  have c_Course := ok_Course_init (P := P) (w := w) (base := base) T cN cC (f_Course_init X G c) c_first_missing n_posts n_copy
  have c_lanesof := ok_lanes_of (P := P) (w := w) (base := base) T cN cC (f_lanes_of X G c) n_lanes c_reached c_before n_start n_end
  have c_known := ok_check_known (P := P) (w := w) (base := base) T cN cC (f_check_known X G c) c_first_missing n_lanes
  have c_cused := ok_check_used (P := P) (w := w) (base := base) T (f_check_used X G c) c_known c_first_missing c_lanesof
  have c_short := ok_shortest_run (P := P) (w := w) (base := base) T cN cC cM (f_shortest_run X G c) n_out n_end m_begun m_done
  have c_suite := cal_suite (P := P) (w := w) (base := base) (D := 5) T B (f_suite X G c) c_mof c_cused c_short
  have c_told := ok__law_told (P := P) (w := w) (base := base) (D := 5) T B BX (f__law_told X G c) c_suite
  exact ok_law T lk hcd TB (f__law_emptied X G c) c_suite c_Course c_lasking c_lbuilt c_cell c_lcourse c_lleast c_line c_llot c_lmachine c_pool c_lright c_lshows c_take c_told c_lused
end
end K48
/-! ## KHZ -/
set_option maxHeartbeats 0
namespace K48
open PySem PySem.Spec PyProof.Rows L2
/-- what the end wants of the law at the head's heap -/
theorem lawAt {w : World} {mg : Str → Option Value} {fa : Addr} {h : Heap} {K : PySem.W.Frag} (X : K.In h) (S : SaysK h K) (G : h.Ns mainGlobals mg) (hm : mg ("law" : Str) = some (.ref fa)) : LamX.LawAtS PySem.Challenge.rw_alsoshown_k48_whole_suites w K C8.CX0 21 63 "_law_script" mg fa h := by
  obtain ⟨f, fd, F, hmf⟩ := f_law X G S.a
  have ef : f = fa := by
    have z := hmf.symm.trans hm
    injection z with z
    injection z
  have eg : f = He.ga K "law" := by
    have z := hmf.symm.trans (He.glo_ok X G (S.a.fact 52 (f := .glo "law") rfl))
    injection z with z
    injection z
  have hb : ∀ (s : Shared) (u : Value), BindsTo s fd ⟨[u], []⟩ [("_law_script", u)] := fun s u => by
    obtain ⟨oc, od, kV, doc, pm, an, cdv, ct, osl, rfl, lk, hcd⟩ := F.ex
    exact .of_eq rfl
  obtain ⟨oc, od, kV, doc, pm, an, cdv, ct, osl, rfl, lk, hcd⟩ := F.ex
  obtain ⟨c0, rfl⟩ := He.codeIn_ref hcd
  have ec : (He.cT K lawP).1 = c0 := He.codeOf_eq (p := lawP) (show K.lookup (He.ga K "law") = _ by rw [← eg]; exact lk) rfl
  rw [← ef]
  have key : ∀ p ∈ [He.cT K lawP], p = He.cT K lawP := fun p hp => List.mem_singleton.mp hp
  refine ⟨_, [He.cT K lawP], spLaw K (He.cT K lawP).2, fun p hp => ?_, fun p hp => ?_, fun p hp => ?_, hb, fun H a ns hl hbits hT hS => ?_, fun base hK hG TB => ?_⟩
  · rw [key p hp]; exact S.empty
  · rw [key p hp]; exact S.out
  · rw [key p hp]; exact PySem.W.codeHd_of_K X S.hd
  · refine ⟨a, ns, rfl, hS, fun p hp => ?_, fun _ => rfl⟩
    rw [List.mem_singleton.mp hp]
    exact LamX.TabS.nil (hT _ List.mem_cons_self)
  · have TB := TB _ List.mem_cons_self
    rw [ec] at TB
    exact promise base X G S.a S.more lk hcd TB
end K48
open PySem PySem.W PySem.Calls PyProof.Rows
set_option maxRecDepth 100000 in
set_option maxHeartbeats 0 in
theorem PySem.Challenge.cw_alsoshown_k48_whole_suites_holds : PySem.Challenge.rw_alsoshown_k48_whole_suites.Holds := by
  refine K48.Head.end_of ?_
  refine LamX.walk_ofTsE (l := PySem.Challenge.rw_alsoshown_k48_whole_suites) (n := 63) (k := 21) (x := "_law_script") (CX := fun _ => C8.CX0) rfl (by decide) (by kernel_rfl) ⟨rfl, by decide, by decide⟩ ?F (fun _ _ _ _ _ z => z)
  intro w mg fa h Y G hmg0
  obtain ⟨K, X, S⟩ := Y
  have hmg : mg ("law" : PySem.Str) = some (.ref fa) := by
    have e : K48.Head.dLaw.name = ("law" : PySem.Str) := by kernel_rfl
    rw [← e]
    exact hmg0
  exact ⟨K, X, K48.lawAt X S G hmg⟩
