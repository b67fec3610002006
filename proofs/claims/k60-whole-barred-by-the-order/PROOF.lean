import PyProof.Rows.All
import Wide.All
import OpenK.AllK
import Wide.FinOn
import HandS.ForMost
import HandS.Deep
import HandS.IsInst
import HandS.Codes
import HandS.Defaults
import HandS.Wide
import HandS.EndBits
import HandS.More
import HandS.SetKeys
import HandS.DictComp
import HandS.DictTup
import HandS.TupAny
import HandS.SortKw
import HandS.Zip
import KE.GoesEnum
import KE.SortData
import KE.KIndexOf
import HandS.SetFor
import HandS.Strs
import KE.DataMinKey
import HandS.Walk
import PySem.Challenge.RW_asifalone_k60_whole_barred_by_the_order
set_option linter.all false
/-! K60P: the plain data and the plain law; no program in sight. -/
namespace K60
abbrev Stp := Bool × Int
abbrev Deal := List Stp
inductive Lv where
  | lax | still | whole
  deriving DecidableEq

def setf {α : Type} (f : Int → α) (k : Int) (v : α) : Int → α := fun x => if x = k then v else f x
theorem setf_same {α : Type} (f : Int → α) (k : Int) (v : α) : setf f k v k = v := by simp [setf]
theorem setf_ne {α : Type} (f : Int → α) {k x : Int} (v : α) (h : x ≠ k) : setf f k v x = f x := by simp [setf, h]

structure Eng where
  mom : Int
  grade : Int → Lv
  start : Int → Option Int
  stop : Int → Option Int
  chain : Int → Option (List Int)
  hold : Int → Option Int
  sight : Int → Int → Option Int
  put : Int → List Int
  looks : List (Int × Int × Int)

def Eng.startOf (E : Eng) (n : Int) : Int := (E.start n).getD (E.mom + 1)
def Eng.stopOf (E : Eng) (n : Int) : Int := (E.stop n).getD (E.mom + 1)
def Eng.rows (E : Eng) (b : Int) : List Int := (E.chain b).getD []
def Eng.seesB (E : Eng) (n w : Int) : Bool := decide (E.grade n = .lax) || decide ((E.stop w).getD 0 < E.startOf n)
def Eng.newest (E : Eng) (n b : Int) : Int := (E.rows b).foldl (fun f w => if E.seesB n w = true then w else f) (-1)
def Eng.rank (E : Eng) (b w : Int) : Int := if w = -1 then -1 else ((E.rows b).idxOf w : Nat)
def Eng.pastB (E : Eng) (one other b : Int) : Bool := match E.sight one b with
  | some s => decide (E.rank b s < E.rank b other)
  | none => false
def Eng.goesPast (E : Eng) (one other : Int) : Bool := (E.put other).any fun b => E.pastB one other b
def Eng.overlap (E : Eng) (a b : Int) : Bool := decide (E.startOf a < E.stopOf b) && decide (E.startOf b < E.stopOf a)
def Eng.Wh (E : Eng) (n m : Int) : Prop := (E.stop m ≠ none ∧ E.grade m = .whole) ∨ m = n
/-- a pair that makes y a middle, n the one that ends -/
def Eng.MidP (E : Eng) (n y x z : Int) : Prop :=
  (x ≠ y ∧ E.overlap x y = true ∧ E.goesPast x y = true) ∧ (z ≠ y ∧ E.overlap z y = true ∧ E.goesPast y z = true ∧ E.stopOf z < E.stopOf y) ∧
    (x = z ∨ E.stopOf z < E.stopOf x) ∧ (n = x ∨ n = y)
def Eng.Mid (E : Eng) (n y : Int) : Prop := ∃ x z, E.Wh n x ∧ E.Wh n z ∧ E.MidP n y x z
def Eng.BarEnd (E : Eng) (n : Int) : Prop := E.grade n = .whole ∧ ∃ y, E.Wh n y ∧ E.Mid n y

/-! ### what a step does -/
def Eng.begun (E : Eng) (n : Int) : Eng := { E with start := setf E.start n (some (E.startOf n)) }
def Eng.read (E : Eng) (n b : Int) : Eng := { E with
  sight := fun a c => if a = n ∧ c = b then some (E.newest n b) else E.sight a c
  looks := E.looks ++ [(n, b, E.newest n b)]
  mom := E.mom + 1 }
def Eng.write (E : Eng) (n b : Int) : Eng := { E with
  hold := setf E.hold b (some n)
  put := setf E.put n (E.put n ++ [b])
  mom := E.mom + 1 }
/-- the boxes of bs are let go: their versions laid -/
def Eng.laid (E : Eng) (n : Int) (bs : List Int) : Eng := { E with
  chain := fun b => if b ∈ bs then some (E.rows b ++ [n]) else E.chain b
  hold := fun b => if b ∈ bs then none else E.hold b }
def Eng.ends (E : Eng) (n : Int) : Eng := { E.laid n (E.put n) with
  stop := setf E.stop n (some (E.mom + 1))
  mom := E.mom + 1 }
def Eng.does (E : Eng) (n : Int) : Option Stp → Eng
  | none => (E.begun n).ends n
  | some (true, b) => (E.begun n).write n b
  | some (false, b) => (E.begun n).read n b

/-! ### the run of a weaving -/
structure RunSt where
  E : Eng
  done : Int → Nat
def init (lv : Int → Lv) : RunSt :=
  ⟨⟨0, lv, fun _ => none, fun _ => none, fun _ => none, fun _ => none, fun _ _ => none, fun _ => [], []⟩, fun _ => 0⟩
def nextStep (D : Int → Deal) (R : RunSt) (n : Int) : Option Stp := (D n)[R.done n]?
def goR (D : Int → Deal) (R : RunSt) (n : Int) : RunSt := ⟨R.E.does n (nextStep D R n), setf R.done n (R.done n + 1)⟩
def runR (D : Int → Deal) (R : RunSt) (ws : List Int) : RunSt := ws.foldl (goR D) R
theorem runR_append (D : Int → Deal) (R : RunSt) (u v : List Int) : runR D R (u ++ v) = runR D (runR D R u) v := by
  simp [runR, List.foldl_append]
theorem runR_snoc (D : Int → Deal) (R : RunSt) (u : List Int) (n : Int) : runR D R (u ++ [n]) = goR D (runR D R u) n := by
  simp [runR, List.foldl_append]

/-- what the walk wants of a step -/
def StepOk (N : Nat) (E : Eng) (n : Int) : Option Stp → Prop
  | some (true, b) => (E.hold b = none ∨ E.hold b = some n) ∧ (∀ w ∈ E.rows b, E.stop w ≠ none) ∧
      (E.grade n = .lax ∨ E.rows b = [] ∨ ∃ w t, (E.rows b).getLast? = some w ∧ E.stop w = some t ∧ t < E.startOf n)
  | some (false, b) => ∀ w ∈ E.rows b, E.stop w ≠ none
  | none => (∀ m, E.stop m ≠ none → 0 ≤ m ∧ m < N) ∧ E.stop n = none ∧ (E.put n).Nodup ∧ (∀ b ∈ E.put n, E.hold b ≠ none)

end K60

set_option linter.all false
namespace K60
def writes (d : Deal) : List Int := d.filterMap fun s => if s.1 then some s.2 else none
theorem mem_writes {d : Deal} {b : Int} : b ∈ writes d ↔ (true, b) ∈ d := by
  simp only [writes, List.mem_filterMap]
  constructor
  · rintro ⟨⟨w, x⟩, h, e⟩
    cases w <;> simp at e
    subst e; exact h
  · intro h; exact ⟨_, h, by simp⟩
theorem writes_append (d e : Deal) : writes (d ++ e) = writes d ++ writes e := by simp [writes]

structure RowOk (i n : Nat) (d : Deal) : Prop where
  nd : d.Nodup
  len1 : 1 ≤ d.length
  len : d.length ≤ 8
  own : (true, 10 + (i : Int)) ∈ d
  first : i = 0 → (true, 0) ∈ d
  link : 0 < i → (false, 9 + (i : Int)) ∈ d
  last : i + 1 = n → (false, 1) ∈ d
  wr : ∀ b, (true, b) ∈ d → b = 10 + (i : Int) ∨ (b = 0 ∧ i = 0) ∨ b = 2 ∨ b = 30 + (i : Int)
  rd : ∀ b, (false, b) ∈ d → (b = 9 + (i : Int) ∧ 0 < i) ∨ b = 1 ∨ b = 30 + (i : Int)
  box : (d.map (·.2)).Nodup

structure Cfg where
  N : Nat
  lv : Int → Lv
  D : Int → Deal
  c : Int
  rs : List Int
  cut : Nat

structure Cfg.Ok (S : Cfg) : Prop where
  nd : (S.c :: S.rs).Nodup
  rng : ∀ m ∈ S.c :: S.rs, 0 ≤ m ∧ m < S.N
  all : ∀ m : Int, 0 ≤ m → m < S.N → m ∈ S.c :: S.rs
  len : S.rs.length + 1 = S.N
  n7 : S.N ≤ 7
  n2 : 1 ≤ S.rs.length
  mlen : (S.D S.c).length = 3
  mnd : (S.D S.c).Nodup
  mmem : ∀ s, s ∈ S.D S.c ↔ s = (false, 0) ∨ s = (false, 2) ∨ s = (true, 1)
  hat : (S.D S.c)[S.cut]? = some (false, 0)
  row : ∀ (i : Nat) (r : Int), S.rs[i]? = some r → RowOk i S.rs.length (S.D r)

/-- the times -/
structure TIv (S : Cfg) (E : Eng) (es : List Int) : Prop where
  mom0 : 0 ≤ E.mom
  stop : ∀ m, E.stop m ≠ none ↔ m ∈ es
  t1 : ∀ s, E.start S.c = some s → s = 1
  t2 : ∀ m t, E.stop m = some t → 1 < t ∧ t ≤ E.mom
  t5 : ∀ m s, E.start m = some s → s ≤ E.mom
  t3 : ∀ a t m s, E.stop a = some t → m ∉ es → m ≠ S.c → E.start m = some s → t < s
  t4 : es.Pairwise fun a b => ∀ t s u, E.stop a = some t → E.start b = some s → E.stop b = some u → t < s ∧ t < u

theorem TIv.step {S : Cfg} {E E' : Eng} {es : List Int} {n : Int} (T : TIv S E es) (hn : n ∉ es)
    (hm : E'.mom = E.mom + 1) (hst : E'.start = (E.begun n).start) (hsp : E'.stop = E.stop) (hc : n = S.c → E.start n = none → E.mom = 0) : TIv S E' es := by
  obtain ⟨m0, sp, t1, t2, t5, t3, t4⟩ := T
  have st : ∀ m, E'.start m = if m = n then some (E.startOf n) else E.start m := by intro m; rw [hst]; simp [Eng.begun, setf]
  have so : ∀ s, E.start n = some s → E.startOf n = s := by intro s h; simp [Eng.startOf, h]
  have so' : E.start n = none → E.startOf n = E.mom + 1 := by intro h; simp [Eng.startOf, h]
  refine ⟨by omega, by rw [hsp]; exact sp, ?_, ?_, ?_, ?_, ?_⟩
  · intro s h
    rw [st] at h
    cases hs : E.start n <;> grind
  · intro m t h
    rw [hsp] at h
    have := t2 m t h
    omega
  · intro m s h
    rw [st] at h
    cases hs : E.start n <;> grind
  · intro a t m s h1 h2 h3 h4
    rw [hsp] at h1
    rw [st] at h4
    have := t2 a t h1
    cases hs : E.start n <;> grind
  · refine t4.imp_of_mem fun {a b} ha hb h => ?_
    intro t s u h1 h2 h3
    rw [hsp] at h1 h3
    rw [st] at h2
    have : b ≠ n := fun e => hn (e ▸ hb)
    simp [this] at h2
    exact h t s u h1 h2 h3
/-- the end of a row -/
theorem TIv.endStep {S : Cfg} {E E' : Eng} {es : List Int} {n : Int} (T : TIv S E es) (hn : n ∉ es) (hnc : n ≠ S.c) (h1 : 1 ≤ E.mom) (hs0 : E.start n ≠ none)
    (hm : E'.mom = E.mom + 1) (hst : E'.start = (E.begun n).start) (hsp : E'.stop = setf E.stop n (some (E.mom + 1)))
    (ho : ∀ m, m ∉ es → m ≠ n → m ≠ S.c → E.start m = none) : TIv S E' (es ++ [n]) := by
  obtain ⟨m0, sp, t1, t2, t5, t3, t4⟩ := T
  obtain ⟨s0, hs0⟩ := Option.ne_none_iff_exists'.mp hs0
  have st : ∀ m, E'.start m = E.start m := by
    intro m; rw [hst]; simp only [Eng.begun, setf, Eng.startOf, hs0]
    split
    · rename_i e; subst e; simp [hs0]
    · rfl
  have sp' : ∀ m, E'.stop m = if m = n then some (E.mom + 1) else E.stop m := by intro m; rw [hsp]; simp [setf]
  refine ⟨by omega, ?_, ?_, ?_, ?_, ?_, ?_⟩
  · intro m
    rw [sp', List.mem_append, List.mem_singleton, ← sp m]
    by_cases e : m = n <;> simp [e]
  · intro s h
    rw [st] at h
    exact t1 s h
  · intro m t h
    rw [sp'] at h
    grind
  · intro m s h
    rw [st] at h
    have := t5 m s h
    omega
  · intro a t m s ha hm' hmc hs
    rw [sp'] at ha
    rw [st] at hs
    rw [List.mem_append, List.mem_singleton] at hm'
    have h2 := ho m (fun z => hm' (.inl z)) (fun z => hm' (.inr z)) hmc
    rw [h2] at hs
    cases hs
  · rw [List.pairwise_append]
    refine ⟨?_, List.pairwise_singleton _ _, ?_⟩
    · refine t4.imp_of_mem fun {a b} ha hb h => ?_
      intro t s u e1 e2 e3
      have na : a ≠ n := fun e => hn (e ▸ ha)
      have nb : b ≠ n := fun e => hn (e ▸ hb)
      rw [sp', if_neg na] at e1
      rw [sp', if_neg nb] at e3
      rw [st] at e2
      exact h t s u e1 e2 e3
    · intro a ha b hb t s u e1 e2 e3
      rw [List.mem_singleton] at hb
      subst hb
      have na : a ≠ b := fun e => hn (e ▸ ha)
      rw [sp', if_neg na] at e1
      rw [sp', if_pos rfl] at e3
      rw [st] at e2
      have q1 := t3 a t b s e1 hn hnc e2
      have q2 := t2 a t e1
      cases e3
      omega

def pr (S : Cfg) (R : RunSt) (m : Int) : List Stp := (S.D m).take (R.done m)

/-- what stands in the store -/
structure SI (S : Cfg) (R : RunSt) (es : List Int) : Prop where
  gr : R.E.grade = S.lv
  start0 : ∀ m, R.E.start m = none ↔ R.done m = 0
  ended : ∀ m, m ∈ es → R.done m = (S.D m).length + 1
  unend : ∀ m, m ∉ es → R.done m ≤ (S.D m).length
  chain : ∀ b, R.E.rows b = es.filter fun r => decide ((true, b) ∈ S.D r)
  hold1 : ∀ b v, R.E.hold b = some v → v ∉ es ∧ (true, b) ∈ pr S R v
  hold2 : ∀ v b, v ∉ es → (true, b) ∈ pr S R v → R.E.hold b = some v
  put : ∀ m, R.E.put m = writes (pr S R m)
  dom : ∀ m b, R.E.sight m b ≠ none ↔ (false, b) ∈ pr S R m
  sv : ∀ m b v, R.E.sight m b = some v → v = -1 ∨ v ∈ R.E.rows b
  sC : ∀ b v, R.E.sight S.c b = some v → (b = 0 ∨ S.lv S.c ≠ .lax) → v = -1
  s1 : ∀ m v, R.E.sight m 1 = some v → v = -1
  sP : ∀ (i : Nat) q r v, S.rs[i]? = some q → S.rs[i + 1]? = some r → R.E.sight r (10 + (i : Int)) = some v → v = q
  looks : ∀ m b v, (m, b, v) ∈ R.E.looks ↔ R.E.sight m b = some v

theorem pr_go {S : Cfg} {R : RunSt} {n : Int} {s : Stp} (h : nextStep S.D R n = some s) (m : Int) :
    pr S (goR S.D R n) m = if m = n then pr S R n ++ [s] else pr S R m := by
  unfold nextStep at h
  by_cases e : m = n
  · subst e
    simp only [pr, goR, setf_same, if_true]
    rw [List.take_add_one, h]; rfl
  · simp [pr, goR, setf_ne _ _ e, e]

theorem newest_mem (E : Eng) (n b : Int) : E.newest n b = -1 ∨ E.newest n b ∈ E.rows b := by
  unfold Eng.newest
  suffices h : ∀ (l : List Int) (f : Int), (f = -1 ∨ f ∈ E.rows b) → (∀ x ∈ l, x ∈ E.rows b) →
      l.foldl (fun f w => if E.seesB n w = true then w else f) f = -1 ∨ l.foldl (fun f w => if E.seesB n w = true then w else f) f ∈ E.rows b from
    h _ _ (.inl rfl) fun _ h => h
  intro l
  induction l with
  | nil => intro f hf _; exact hf
  | cons x l ih =>
    intro f hf hl
    rw [List.foldl_cons]
    refine ih _ ?_ fun y hy => hl y (List.mem_cons_of_mem _ hy)
    split
    · exact .inr (hl x List.mem_cons_self)
    · exact hf

theorem SI.readStep {S : Cfg} {R : RunSt} {es : List Int} {n b : Int} (I : SI S R es) (hn : n ∉ es) (hnd : (S.D n).Nodup)
    (hs : nextStep S.D R n = some (false, b))
    (hv1 : n = S.c → (b = 0 ∨ S.lv S.c ≠ .lax) → (R.E.begun n).newest n b = -1) (hv2 : b = 1 → (R.E.begun n).newest n b = -1)
    (hv3 : ∀ (i : Nat) q, S.rs[i]? = some q → S.rs[i + 1]? = some n → b = 10 + (i : Int) → (R.E.begun n).newest n b = q) : SI S (goR S.D R n) es := by
  obtain ⟨gr, start0, ended, unend, chain, hold1, hold2, put, dom, sv, sC, s1, sP, looks⟩ := I
  have hp := pr_go hs
  have hE : (goR S.D R n).E = (R.E.begun n).read n b := by simp [goR, hs, Eng.does]
  have hd : ∀ m, (goR S.D R n).done m = if m = n then R.done n + 1 else R.done m := by intro m; simp [goR, setf]
  have hlt : R.done n < (S.D n).length := by
    unfold nextStep at hs
    exact (List.getElem?_eq_some_iff.mp hs).1
  have hnew : (false, b) ∉ pr S R n := by
    unfold nextStep at hs
    intro h
    unfold pr at h
    obtain ⟨j, hj, e⟩ := List.getElem_of_mem h
    rw [List.length_take] at hj
    rw [List.getElem_take] at e
    have h2 := List.getElem?_eq_some_iff.mp hs
    obtain ⟨h3, h4⟩ := h2
    have h5 : (S.D n)[j]? = (S.D n)[R.done n]? := by rw [hs, ← e]; exact List.getElem?_eq_getElem (by omega)
    have := (List.getElem?_inj (by omega) hnd).mp h5
    omega
  have hsn : R.E.sight n b = none := by
    cases e : R.E.sight n b with
    | none => rfl
    | some v => exact absurd ((dom n b).mp (by simp [e])) hnew
  have hrow : ∀ x, (goR S.D R n).E.rows x = R.E.rows x := by intro x; rw [hE]; rfl
  have hsg : ∀ m x, (goR S.D R n).E.sight m x = if m = n ∧ x = b then some ((R.E.begun n).newest n b) else R.E.sight m x := by intro m x; rw [hE]; rfl
  have hstart : ∀ m, (goR S.D R n).E.start m = if m = n then some (R.E.startOf n) else R.E.start m := by intro m; rw [hE]; simp [Eng.read, Eng.begun, setf]
  refine ⟨by rw [hE]; exact gr, ?_, ?_, ?_, ?_, ?_, ?_, ?_, ?_, ?_, ?_, ?_, ?_, ?_⟩
  · intro m
    rw [hstart, hd]
    by_cases e : m = n
    · simp [e]
    · simp [e, start0]
  · intro m hm
    have : m ≠ n := fun e => hn (e ▸ hm)
    rw [hd, if_neg this]; exact ended m hm
  · intro m hm
    rw [hd]
    split
    · rename_i e; subst e; omega
    · exact unend m hm
  · intro x; rw [hrow]; exact chain x
  · intro x v h
    have h' : R.E.hold x = some v := by rw [hE] at h; exact h
    obtain ⟨a1, a2⟩ := hold1 x v h'
    refine ⟨a1, ?_⟩
    rw [hp]
    split
    · rename_i e; subst e; exact List.mem_append_left _ a2
    · exact a2
  · intro v x hv h
    rw [hE]
    show R.E.hold x = some v
    refine hold2 v x hv ?_
    rw [hp] at h
    split at h
    · rename_i e; subst e
      rcases List.mem_append.mp h with h | h
      · exact h
      · simp at h
    · exact h
  · intro m
    rw [hp, hE]
    show R.E.put m = _
    rw [put]
    split
    · rename_i e; subst e; simp [writes_append, writes]
    · rfl
  · intro m x
    rw [hsg, hp]
    by_cases e : m = n
    · subst e
      by_cases ex : x = b
      · subst ex; simp
      · simp [ex, dom]
    · simp [e, dom]
  · intro m x v h
    rw [hsg] at h
    rw [hrow]
    split at h
    · rename_i e
      obtain ⟨e1, e2⟩ := e
      subst e2
      cases h
      have := newest_mem (R.E.begun n) n x
      exact this
    · exact sv m x v h
  · intro x v h hx
    rw [hsg] at h
    split at h
    · rename_i e
      obtain ⟨e1, e2⟩ := e
      subst e2
      cases h
      exact hv1 e1.symm hx
    · exact sC x v h hx
  · intro m v h
    rw [hsg] at h
    split at h
    · rename_i e
      cases h
      exact hv2 e.2.symm
    · exact s1 m v h
  · intro i q r v h1 h2 h
    rw [hsg] at h
    split at h
    · rename_i e
      obtain ⟨e1, e2⟩ := e
      subst e1
      cases h
      exact hv3 i q h1 h2 e2.symm
    · exact sP i q r v h1 h2 h
  · intro m x v
    rw [hsg]
    have : (goR S.D R n).E.looks = R.E.looks ++ [(n, b, (R.E.begun n).newest n b)] := by rw [hE]; rfl
    rw [this, List.mem_append, List.mem_singleton, looks]
    by_cases e : m = n ∧ x = b
    · obtain ⟨e1, e2⟩ := e
      subst e1; subst e2
      simp [hsn, eq_comm]
    · rw [if_neg e]
      simp only [Prod.mk.injEq]
      constructor
      · rintro (h | ⟨h1, h2, _⟩)
        · exact h
        · exact absurd ⟨h1, h2⟩ e
      · exact fun h => .inl h

theorem SI.writeStep {S : Cfg} {R : RunSt} {es : List Int} {n b : Int} (I : SI S R es) (hn : n ∉ es)
    (hs : nextStep S.D R n = some (true, b)) (ho : ∀ v, v ≠ n → v ∉ es → (true, b) ∉ pr S R v) : SI S (goR S.D R n) es := by
  obtain ⟨gr, start0, ended, unend, chain, hold1, hold2, put, dom, sv, sC, s1, sP, looks⟩ := I
  have hp := pr_go hs
  have hE : (goR S.D R n).E = (R.E.begun n).write n b := by simp [goR, hs, Eng.does]
  have hd : ∀ m, (goR S.D R n).done m = if m = n then R.done n + 1 else R.done m := by intro m; simp [goR, setf]
  have hlt : R.done n < (S.D n).length := by
    unfold nextStep at hs
    exact (List.getElem?_eq_some_iff.mp hs).1
  have hrow : ∀ x, (goR S.D R n).E.rows x = R.E.rows x := by intro x; rw [hE]; rfl
  have hsg : ∀ m x, (goR S.D R n).E.sight m x = R.E.sight m x := by intro m x; rw [hE]; rfl
  have hstart : ∀ m, (goR S.D R n).E.start m = if m = n then some (R.E.startOf n) else R.E.start m := by intro m; rw [hE]; simp [Eng.write, Eng.begun, setf]
  have hh : ∀ x, (goR S.D R n).E.hold x = if x = b then some n else R.E.hold x := by intro x; rw [hE]; simp [Eng.write, Eng.begun, setf]
  have hput : ∀ m, (goR S.D R n).E.put m = if m = n then R.E.put n ++ [b] else R.E.put m := by intro x; rw [hE]; simp [Eng.write, Eng.begun, setf]
  refine ⟨by rw [hE]; exact gr, ?_, ?_, ?_, ?_, ?_, ?_, ?_, ?_, ?_, ?_, ?_, ?_, ?_⟩
  · intro m
    rw [hstart, hd]
    by_cases e : m = n
    · simp [e]
    · simp [e, start0]
  · intro m hm
    have : m ≠ n := fun e => hn (e ▸ hm)
    rw [hd, if_neg this]; exact ended m hm
  · intro m hm
    rw [hd]
    split
    · rename_i e; subst e; omega
    · exact unend m hm
  · intro x; rw [hrow]; exact chain x
  · intro x v h
    rw [hh] at h
    rw [hp]
    split at h
    · rename_i e; subst e
      cases h
      exact ⟨hn, by simp⟩
    · obtain ⟨a1, a2⟩ := hold1 x v h
      refine ⟨a1, ?_⟩
      split
      · rename_i e; subst e; exact List.mem_append_left _ a2
      · exact a2
  · intro v x hv h
    rw [hp] at h
    rw [hh]
    by_cases e : v = n
    · subst e
      simp only [if_true] at h
      rcases List.mem_append.mp h with h | h
      · by_cases ex : x = b
        · simp [ex]
        · simp [ex]; exact hold2 _ _ hn h
      · simp at h; simp [h]
    · simp only [e, if_false] at h
      by_cases ex : x = b
      · subst ex; exact absurd h (ho v e hv)
      · simp [ex]; exact hold2 _ _ hv h
  · intro m
    rw [hput, hp]
    split
    · rename_i e; subst e; simp [writes_append, writes, put]
    · exact put m
  · intro m x
    rw [hsg, hp, dom]
    split
    · rename_i e; subst e; simp
    · rfl
  · intro m x v h
    rw [hsg] at h; rw [hrow]; exact sv m x v h
  · intro x v h hx
    rw [hsg] at h; exact sC x v h hx
  · intro m v h
    rw [hsg] at h; exact s1 m v h
  · intro i q r v h1 h2 h
    rw [hsg] at h; exact sP i q r v h1 h2 h
  · intro m x v
    rw [hsg]
    have : (goR S.D R n).E.looks = R.E.looks := by rw [hE]; rfl
    rw [this, looks]

theorem SI.endStep {S : Cfg} {R : RunSt} {es : List Int} {n : Int} (I : SI S R es) (hn : n ∉ es) (hl : 1 ≤ (S.D n).length)
    (hs : nextStep S.D R n = none) : SI S (goR S.D R n) (es ++ [n]) := by
  obtain ⟨gr, start0, ended, unend, chain, hold1, hold2, put, dom, sv, sC, s1, sP, looks⟩ := I
  have hE : (goR S.D R n).E = (R.E.begun n).ends n := by simp [goR, hs, Eng.does]
  have hd : ∀ m, (goR S.D R n).done m = if m = n then R.done n + 1 else R.done m := by intro m; simp [goR, setf]
  have hlen : R.done n = (S.D n).length := by
    unfold nextStep at hs
    have := List.getElem?_eq_none_iff.mp hs
    have := unend n hn
    omega
  have hprn : pr S R n = S.D n := by unfold pr; rw [hlen]; exact List.take_length
  have hp : ∀ m, pr S (goR S.D R n) m = pr S R m := by
    intro m
    by_cases e : m = n
    · subst e
      rw [hprn]
      unfold pr
      rw [hd, if_pos rfl, hlen]
      exact List.take_of_length_le (by omega)
    · unfold pr; rw [hd, if_neg e]
  have hpn : R.E.put n = writes (S.D n) := by rw [put, hprn]
  have hrow : ∀ x, (goR S.D R n).E.rows x = if (true, x) ∈ S.D n then R.E.rows x ++ [n] else R.E.rows x := by
    intro x
    rw [hE]
    simp only [Eng.rows, Eng.ends, Eng.laid, Eng.begun, hpn, mem_writes]
    split <;> rfl
  have hsg : ∀ m x, (goR S.D R n).E.sight m x = R.E.sight m x := by intro m x; rw [hE]; rfl
  have hstart : ∀ m, (goR S.D R n).E.start m = if m = n then some (R.E.startOf n) else R.E.start m := by intro m; rw [hE]; simp [Eng.ends, Eng.laid, Eng.begun, setf]
  have hh : ∀ x, (goR S.D R n).E.hold x = if (true, x) ∈ S.D n then none else R.E.hold x := by
    intro x
    rw [hE]
    simp only [Eng.ends, Eng.laid, Eng.begun, hpn, mem_writes]
  refine ⟨by rw [hE]; exact gr, ?_, ?_, ?_, ?_, ?_, ?_, ?_, ?_, ?_, ?_, ?_, ?_, ?_⟩
  · intro m
    rw [hstart, hd]
    by_cases e : m = n
    · simp [e]
    · simp [e, start0]
  · intro m hm
    rw [hd]
    split
    · rename_i e; subst e; omega
    · rename_i e
      rcases List.mem_append.mp hm with hm | hm
      · exact ended m hm
      · simp at hm; exact absurd hm e
  · intro m hm
    rw [hd]
    have h1 : m ∉ es := fun h => hm (List.mem_append_left _ h)
    have h2 : m ≠ n := fun h => hm (by simp [h])
    rw [if_neg h2]; exact unend m h1
  · intro x
    rw [hrow, List.filter_append, chain]
    by_cases e : (true, x) ∈ S.D n <;> simp [e]
  · intro x v h
    rw [hh] at h
    split at h
    · cases h
    · rename_i e
      obtain ⟨a1, a2⟩ := hold1 x v h
      rw [hp]
      refine ⟨?_, a2⟩
      intro hv
      rcases List.mem_append.mp hv with hv | hv
      · exact a1 hv
      · simp at hv; subst hv; rw [hprn] at a2; exact e a2
  · intro v x hv h
    rw [hp] at h
    have h1 : v ∉ es := fun h => hv (List.mem_append_left _ h)
    have h2 : v ≠ n := fun h => hv (by simp [h])
    have h3 := hold2 v x h1 h
    rw [hh]
    split
    · rename_i e
      have h4 := hold2 n x hn (by rw [hprn]; exact e)
      rw [h3] at h4
      exact absurd (Option.some.inj h4) h2
    · exact h3
  · intro m
    rw [hp, hE]
    exact put m
  · intro m x
    rw [hsg, hp, dom]
  · intro m x v h
    rw [hsg] at h
    rcases sv m x v h with h | h
    · exact .inl h
    · right
      rw [hrow]
      split
      · exact List.mem_append_left _ h
      · exact h
  · intro x v h hx
    rw [hsg] at h; exact sC x v h hx
  · intro m v h
    rw [hsg] at h; exact s1 m v h
  · intro i q r v h1 h2 h
    rw [hsg] at h; exact sP i q r v h1 h2 h
  · intro m x v
    rw [hsg]
    have : (goR S.D R n).E.looks = R.E.looks := by rw [hE]; rfl
    rw [this, looks]
end K60

set_option linter.all false
namespace K60
theorem pairs_or {α : Type} {P : α → α → Prop} : ∀ {l : List α}, l.Pairwise P → ∀ {a b : α}, a ∈ l → b ∈ l → a ≠ b → P a b ∨ P b a
  | [], _, _, _, h, _, _ => by cases h
  | x :: l, h, a, b, ha, hb, n => by
    have h1 := (List.pairwise_cons.mp h).1
    have h2 := (List.pairwise_cons.mp h).2
    rcases List.mem_cons.mp ha with ea | ha
    · rcases List.mem_cons.mp hb with eb | hb
      · exact absurd (ea.trans eb.symm) n
      · exact .inl (ea ▸ h1 _ hb)
    · rcases List.mem_cons.mp hb with eb | hb
      · exact .inr (eb ▸ h1 _ ha)
      · exact pairs_or h2 ha hb n

/-- who overlaps nobody: two rows, ended or the current one -/
theorem TIv.apart {S : Cfg} {E : Eng} {es : List Int} (T : TIv S E es) (hst : ∀ m ∈ es, E.start m ≠ none) {n : Int} (hn : n ∉ es) (hnc : n ≠ S.c) (hs : E.start n ≠ none)
    {a b : Int} (ha : a ∈ es ∨ a = n) (hb : b ∈ es ∨ b = n) (hab : a ≠ b) : E.overlap a b = false := by
  obtain ⟨m0, sp, t1, t2, t5, t3, t4⟩ := T
  have key : ∀ x y, x ∈ es → (y ∈ es ∧ (∀ t s u, E.stop x = some t → E.start y = some s → E.stop y = some u → t < s ∧ t < u) ∨ y = n) → E.overlap x y = false ∧ E.overlap y x = false := by
    intro x y hx hy
    obtain ⟨t, ht⟩ := Option.ne_none_iff_exists'.mp ((sp x).mpr hx)
    have hys : ∃ s, E.start y = some s ∧ t < s := by
      rcases hy with ⟨hy, h⟩ | rfl
      · obtain ⟨s, e⟩ := Option.ne_none_iff_exists'.mp (hst y hy)
        obtain ⟨u, eu⟩ := Option.ne_none_iff_exists'.mp ((sp y).mpr hy)
        exact ⟨s, e, (h t s u ht e eu).1⟩
      · obtain ⟨s, e⟩ := Option.ne_none_iff_exists'.mp hs
        exact ⟨s, e, t3 x t y s ht hn hnc e⟩
    obtain ⟨s, e, lt⟩ := hys
    have f : decide (E.startOf y < E.stopOf x) = false := by
      simp only [Eng.startOf, Eng.stopOf, e, ht, Option.getD_some]
      exact decide_eq_false (by omega)
    constructor
    · unfold Eng.overlap; rw [f]; simp
    · unfold Eng.overlap; rw [f]; simp
  rcases ha with ha | rfl
  · rcases hb with hb | rfl
    · rcases pairs_or t4 ha hb hab with h | h
      · exact (key a b ha (.inl ⟨hb, h⟩)).1
      · exact (key b a hb (.inl ⟨ha, h⟩)).2
    · exact (key a _ ha (.inr rfl)).1
  · rcases hb with hb | rfl
    · exact (key b _ hb (.inr rfl)).2
    · exact absurd rfl hab

def Cfg.Due (S : Cfg) : Prop := S.lv S.c = .whole ∧ ∃ (i j : Nat) (z x : Int), i ≤ j ∧ S.rs[i]? = some z ∧ S.rs[j]? = some x ∧ S.lv z = .whole ∧ S.lv x = .whole ∧
  ((true, 0) ∈ S.D z ∨ (true, 2) ∈ S.D z) ∧ (false, 1) ∈ S.D x

/-- each step that a weaving takes from here on is fine, and an end is barred just where it is due -/
def AllSteps (S : Cfg) : RunSt → List Int → Prop
  | _, [] => True
  | R, n :: ws => ((0 ≤ n ∧ n < S.N ∧ R.done n ≤ (S.D n).length ∧ StepOk S.N R.E n (nextStep S.D R n)) ∧ (nextStep S.D R n = none → (R.E.BarEnd n ↔ n = S.c ∧ S.Due))) ∧ AllSteps S (goR S.D R n) ws
theorem AllSteps.append {S : Cfg} : ∀ {u v : List Int} {R : RunSt}, AllSteps S R u → AllSteps S (runR S.D R u) v → AllSteps S R (u ++ v)
  | [], _, _, _, h => h
  | n :: u, v, R, h, h' => ⟨h.1, AllSteps.append (u := u) h.2 h'⟩

variable {S : Cfg} {R : RunSt} {es : List Int}
theorem rows_sub (I : SI S R es) {b w : Int} (h : w ∈ R.E.rows b) : w ∈ es ∧ (true, b) ∈ S.D w := by
  rw [I.chain, List.mem_filter] at h
  exact ⟨h.1, of_decide_eq_true h.2⟩
theorem pr_sub {m : Int} {s : Stp} (h : s ∈ pr S R m) : s ∈ S.D m := List.mem_of_mem_take h
theorem step_mem {n : Int} {s : Stp} (h : nextStep S.D R n = some s) : s ∈ S.D n := List.mem_of_getElem? h
theorem writes_nodup : ∀ {d : Deal}, d.Nodup → (writes d).Nodup
  | [], _ => by simp [writes]
  | (w, b) :: d, h => by
    rw [List.nodup_cons] at h
    have ih := writes_nodup h.2
    cases w with
    | false => simpa [writes] using ih
    | true =>
      have : writes ((true, b) :: d) = b :: writes d := by simp [writes]
      rw [this, List.nodup_cons]
      exact ⟨fun q => h.1 (mem_writes.mp q), ih⟩
/-- a row's steps are fine -/
theorem row_ok (T : TIv S R.E es) (I : SI S R es) {n : Int} (hn : n ∉ es) (hnc : n ≠ S.c) (hr : ∀ m ∈ es, 0 ≤ m ∧ m < S.N) (hnd : (S.D n).Nodup)
    (ho : ∀ b v, v ≠ n → v ∉ es → (true, b) ∈ pr S R v → (true, b) ∉ S.D n) : StepOk S.N R.E n (nextStep S.D R n) := by
  cases e : nextStep S.D R n with
  | none =>
    have hlen : R.done n = (S.D n).length := by
      unfold nextStep at e
      have := List.getElem?_eq_none_iff.mp e
      have := I.unend n hn
      omega
    refine ⟨fun m hm => hr m ((T.stop m).mp hm), ?_, ?_, ?_⟩
    · cases q : R.E.stop n with
      | none => rfl
      | some t => exact absurd ((T.stop n).mp (by simp [q])) hn
    · rw [I.put]
      exact writes_nodup (hnd.sublist (List.take_sublist _ _))
    · intro b hb
      rw [I.put, mem_writes] at hb
      rw [I.hold2 n b hn hb]
      simp
  | some s =>
    obtain ⟨w, b⟩ := s
    have hrows : ∀ x ∈ R.E.rows b, R.E.stop x ≠ none := fun x hx => (T.stop x).mpr (rows_sub I hx).1
    cases w with
    | false => exact hrows
    | true =>
      refine ⟨?_, hrows, ?_⟩
      · cases q : R.E.hold b with
        | none => exact .inl rfl
        | some v =>
          obtain ⟨h1, h2⟩ := I.hold1 b v q
          by_cases hv : v = n
          · subst hv; exact .inr rfl
          · exact absurd (step_mem e) (ho b v hv h1 h2)
      · right
        cases q : (R.E.rows b).getLast? with
        | none => left; exact List.getLast?_eq_none_iff.mp q
        | some x =>
          right
          have hx : x ∈ R.E.rows b := List.mem_of_getLast? q
          obtain ⟨t, ht⟩ := Option.ne_none_iff_exists'.mp (hrows x hx)
          refine ⟨x, t, rfl, ht, ?_⟩
          cases z : R.E.start n with
          | none =>
            have := T.t2 x t ht
            simp only [Eng.startOf, z, Option.getD_none]; omega
          | some s =>
            simp only [Eng.startOf, z, Option.getD_some]
            exact T.t3 x t n s ht hn hnc z
theorem newest_nil {E : Eng} {n b : Int} (h : E.rows b = []) : E.newest n b = -1 := by unfold Eng.newest; rw [h]; rfl
theorem newest_none {E : Eng} {n b : Int} (h : ∀ w ∈ E.rows b, E.seesB n w = false) : E.newest n b = -1 := by
  unfold Eng.newest
  generalize E.rows b = l at h
  generalize (-1 : Int) = f
  induction l with
  | nil => rfl
  | cons x l ih =>
    rw [List.foldl_cons, h x List.mem_cons_self]
    exact ih fun w hw => h w (List.mem_cons_of_mem _ hw)
theorem newest_all {E : Eng} {n b q : Int} (h : ∀ w ∈ E.rows b, w = q ∧ E.seesB n w = true) (hne : q ∈ E.rows b) : E.newest n b = q := by
  unfold Eng.newest
  generalize E.rows b = l at h hne
  generalize (-1 : Int) = f
  induction l generalizing f with
  | nil => cases hne
  | cons x l ih =>
    obtain ⟨rfl, e⟩ := h x List.mem_cons_self
    rw [List.foldl_cons, e]
    by_cases hx : x ∈ l
    · exact ih (fun w hw => h w (List.mem_cons_of_mem _ hw)) hx _
    · cases l with
      | nil => rfl
      | cons y l =>
        have := (h y (by simp)).1
        subst this
        exact absurd List.mem_cons_self hx

section
variable (O : S.Ok)
include O
theorem Cfg.Ok.cn : S.c ∉ S.rs := (List.nodup_cons.mp O.nd).1
theorem Cfg.Ok.rn : S.rs.Nodup := (List.nodup_cons.mp O.nd).2
theorem Cfg.Ok.rowAt {r : Int} (h : r ∈ S.rs) : ∃ i : Nat, S.rs[i]? = some r ∧ i < 6 ∧ RowOk i S.rs.length (S.D r) := by
  obtain ⟨i, hi⟩ := List.mem_iff_getElem?.mp h
  have h1 := (List.getElem?_eq_some_iff.mp hi).1
  have h2 := O.len
  have h3 := O.n7
  exact ⟨i, hi, by omega, O.row i r hi⟩
theorem Cfg.Ok.no1 {r : Int} (h : r ∈ S.rs) : (true, 1) ∉ S.D r := by
  obtain ⟨i, hi, h6, X⟩ := O.rowAt h
  intro q
  have := X.wr 1 q
  omega
theorem Cfg.Ok.ndD {r : Int} (h : r ∈ S.c :: S.rs) : (S.D r).Nodup := by
  rcases List.mem_cons.mp h with rfl | h
  · exact O.mnd
  · obtain ⟨i, hi, h6, X⟩ := O.rowAt h
    exact X.nd
theorem Cfg.Ok.c1 {b : Int} (h : (true, b) ∈ S.D S.c) : b = 1 := by
  have := (O.mmem (true, b)).mp h
  simpa using this

theorem begun_newest (E : Eng) (n b : Int) : (E.begun n).newest n b = E.newest n b := by
  have h : ∀ w, (E.begun n).seesB n w = E.seesB n w := by
    intro w
    have : (E.begun n).startOf n = E.startOf n := by simp [Eng.startOf, Eng.begun, setf_same]
    unfold Eng.seesB
    rw [this]; rfl
  unfold Eng.newest
  have e : (E.begun n).rows b = E.rows b := rfl
  rw [e]
  congr 1
  funext f w
  rw [h]

/-- the cut one's own steps -/
theorem c_ok (T : TIv S R.E es) (I : SI S R es) (hc : S.c ∉ es) (hes : ∀ m ∈ es, m ∈ S.rs) (ho : ∀ m, m ≠ S.c → m ∉ es → R.done m = 0) : StepOk S.N R.E S.c (nextStep S.D R S.c) := by
  have h1 : R.E.rows 1 = [] := by
    rw [I.chain]
    refine List.filter_eq_nil_iff.mpr fun r hr => ?_
    simpa using O.no1 (hes r hr)
  cases e : nextStep S.D R S.c with
  | none =>
    have hlen : R.done S.c = (S.D S.c).length := by
      unfold nextStep at e
      have := List.getElem?_eq_none_iff.mp e
      have := I.unend _ hc
      omega
    refine ⟨fun m hm => O.rng m (List.mem_cons_of_mem _ (hes m ((T.stop m).mp hm))), ?_, ?_, ?_⟩
    · cases q : R.E.stop S.c with
      | none => rfl
      | some t => exact absurd ((T.stop _).mp (by simp [q])) hc
    · rw [I.put]
      exact writes_nodup (O.mnd.sublist (List.take_sublist _ _))
    · intro b hb
      rw [I.put, mem_writes] at hb
      rw [I.hold2 _ b hc hb]
      simp
  | some s =>
    obtain ⟨w, b⟩ := s
    have hrows : ∀ x ∈ R.E.rows b, R.E.stop x ≠ none := fun x hx => (T.stop x).mpr (rows_sub I hx).1
    cases w with
    | false => exact hrows
    | true =>
      have hb : b = 1 := O.c1 (step_mem e)
      subst hb
      refine ⟨?_, hrows, .inr (.inl h1)⟩
      cases q : R.E.hold 1 with
      | none => exact .inl rfl
      | some v =>
        obtain ⟨h1, h2⟩ := I.hold1 1 v q
        by_cases hv : v = S.c
        · exact .inr (by rw [hv])
        · have := ho v hv h1
          unfold pr at h2
          rw [this] at h2
          cases h2

theorem cPre : ∀ (k : Nat) (R : RunSt), TIv S R.E [] → SI S R [] → (∀ m, m ≠ S.c → R.done m = 0) → R.E.mom = R.done S.c → R.done S.c + k ≤ 3 →
    AllSteps S R (List.replicate k S.c) ∧ TIv S (runR S.D R (List.replicate k S.c)).E [] ∧ SI S (runR S.D R (List.replicate k S.c)) [] ∧
      (∀ m, m ≠ S.c → (runR S.D R (List.replicate k S.c)).done m = 0) ∧ (runR S.D R (List.replicate k S.c)).E.mom = (R.done S.c + k : Nat) ∧ (runR S.D R (List.replicate k S.c)).done S.c = R.done S.c + k
  | 0, R, T, I, ho, hm, hk => ⟨trivial, T, I, ho, hm, rfl⟩
  | k + 1, R, T, I, ho, hm, hk => by
    have hlt : R.done S.c < (S.D S.c).length := by rw [O.mlen]; omega
    obtain ⟨s, hs⟩ : ∃ s, nextStep S.D R S.c = some s := ⟨_, List.getElem?_eq_getElem hlt⟩
    have hc : S.c ∉ ([] : List Int) := by simp
    have ok := c_ok O T I hc (by simp) fun m h _ => ho m h
    have hrow : ∀ b, R.E.rows b = [] := fun b => by rw [I.chain]; rfl
    have hd : ∀ m, (goR S.D R S.c).done m = if m = S.c then R.done S.c + 1 else R.done m := by intro m; simp [goR, setf]
    have hmom : (goR S.D R S.c).E.mom = R.E.mom + 1 := by
      obtain ⟨w, b⟩ := s
      cases w <;> (simp only [goR, hs, Eng.does]; rfl)
    have T' : TIv S (goR S.D R S.c).E [] := by
      refine T.step hc hmom ?_ ?_ ?_
      · obtain ⟨w, b⟩ := s
        cases w <;> (simp only [goR, hs, Eng.does]; rfl)
      · obtain ⟨w, b⟩ := s
        cases w <;> (simp only [goR, hs, Eng.does]; rfl)
      · intro _ h
        rw [hm, (I.start0 S.c).mp h]; rfl
    have I' : SI S (goR S.D R S.c) [] := by
      obtain ⟨w, b⟩ := s
      have hnew : (R.E.begun S.c).newest S.c b = -1 := newest_nil (hrow b)
      cases w with
      | false =>
        refine I.readStep hc O.mnd hs (fun _ _ => hnew) (fun _ => hnew) ?_
        intro i q h1 h2
        exact absurd (List.mem_of_getElem? h2) O.cn
      | true =>
        refine I.writeStep hc hs fun v hv _ h => ?_
        unfold pr at h
        rw [ho v hv] at h
        cases h
    obtain ⟨a1, a2, a3, a4, a5, a6⟩ := cPre k (goR S.D R S.c) T' I' (fun m h => by rw [hd, if_neg h]; exact ho m h) (by rw [hmom, hm, hd, if_pos rfl]; simp) (by rw [hd, if_pos rfl]; omega)
    have e0 : (goR S.D R S.c).done S.c = R.done S.c + 1 := by rw [hd, if_pos rfl]
    rw [e0] at a5 a6
    refine ⟨⟨⟨⟨(O.rng S.c List.mem_cons_self).1, (O.rng S.c List.mem_cons_self).2, Nat.le_of_lt hlt, ok⟩, fun h => ?_⟩, a1⟩, a2, a3, a4, ?_, ?_⟩
    · rw [hs] at h; cases h
    · rw [show R.done S.c + (k + 1) = R.done S.c + 1 + k from by omega]; exact a5
    · rw [show R.done S.c + (k + 1) = R.done S.c + 1 + k from by omega]; exact a6
end
end K60

set_option linter.all false
namespace K60
variable {S : Cfg} {R : RunSt} {es : List Int}
section
variable (O : S.Ok)
include O
/-- where a row runs: the first j are ended, r is the j-th -/
structure RowPh (S : Cfg) (R : RunSt) (j : Nat) (r : Int) : Prop where
  T : TIv S R.E (S.rs.take j)
  I : SI S R (S.rs.take j)
  hr : S.rs[j]? = some r
  dc : R.done S.c = S.cut + 1
  ho : ∀ m, m ≠ S.c → m ≠ r → m ∉ S.rs.take j → R.done m = 0

theorem take_rs {j : Nat} {m : Int} (h : m ∈ S.rs.take j) : m ∈ S.rs := List.mem_of_mem_take h
theorem RowPh.notin {j : Nat} {r : Int} (P : RowPh S R j r) : r ∉ S.rs.take j := by
  intro h
  obtain ⟨i, hi, e⟩ := List.getElem_of_mem h
  rw [List.length_take] at hi
  rw [List.getElem_take] at e
  have h1 := (List.getElem?_eq_some_iff.mp P.hr).1
  have h5 : S.rs[i]? = S.rs[j]? := by rw [P.hr, ← e]; exact List.getElem?_eq_getElem (by omega)
  have := (List.getElem?_inj (by omega) O.rn).mp h5
  omega
theorem cstart (hd : R.done S.c ≠ 0) (T : TIv S R.E es) (I : SI S R es) : R.E.start S.c = some 1 ∧ 1 ≤ R.E.mom := by
  have h1 : R.E.start S.c ≠ none := fun h => hd ((I.start0 _).mp h)
  obtain ⟨s, hs⟩ := Option.ne_none_iff_exists'.mp h1
  have := T.t1 s hs
  subst this
  have := T.t5 _ _ hs
  exact ⟨hs, this⟩

theorem no_bar (T : TIv S R.E es) (I : SI S R es) {n : Int} (hn : n ∉ es) (hnc : n ≠ S.c) (hce : S.c ∉ es) (hd : R.done n ≠ 0) : ¬ R.E.BarEnd n := by
  rintro ⟨hg, y, hy, x, z, hx, hz, ⟨hxy, ov, _⟩, _⟩
  have hst : ∀ m ∈ es, R.E.start m ≠ none := fun m hm h => by
    have := (I.start0 m).mp h
    have := I.ended m hm
    omega
  have hs : R.E.start n ≠ none := fun h => hd ((I.start0 n).mp h)
  have wh : ∀ m, R.E.Wh n m → m ∈ es ∨ m = n := by
    rintro m (⟨h, _⟩ | h)
    · exact .inl ((T.stop m).mp h)
    · exact .inr h
  have := T.apart hst hn hnc hs (wh x hx) (wh y hy) hxy
  rw [ov] at this
  cases this

theorem rowStep {j : Nat} {r : Int} (P : RowPh S R j r) {s : Stp} (hs : nextStep S.D R r = some s) :
    StepOk S.N R.E r (nextStep S.D R r) ∧ RowPh S (goR S.D R r) j r := by
  have hn := P.notin O
  obtain ⟨T, I, hr, dc, ho⟩ := P
  have hrm : r ∈ S.rs := List.mem_of_getElem? hr
  have hrc : r ≠ S.c := fun e => O.cn (e ▸ hrm)
  obtain ⟨c1, m1⟩ := cstart O (by omega) T I
  have X := O.row j r hr
  have hj : j < S.rs.length := (List.getElem?_eq_some_iff.mp hr).1
  have hl6 : S.rs.length ≤ 6 := by have := O.len; have := O.n7; omega
  have hoth : ∀ b v, v ≠ r → v ∉ S.rs.take j → (true, b) ∈ pr S R v → (true, b) ∉ S.D r := by
    intro b v h1 h2 h3 h4
    by_cases hv : v = S.c
    · subst hv
      have := O.c1 (pr_sub h3)
      subst this
      exact O.no1 hrm h4
    · unfold pr at h3
      rw [ho v hv h1 h2] at h3
      cases h3
  have ok := row_ok T I hn hrc (fun m hm => O.rng m (List.mem_cons_of_mem _ (take_rs O hm))) X.nd hoth
  have hd : ∀ m, (goR S.D R r).done m = if m = r then R.done r + 1 else R.done m := by intro m; simp [goR, setf]
  refine ⟨ok, ?_, ?_, hr, by rw [hd, if_neg hrc.symm]; exact dc, fun m h1 h2 h3 => by rw [hd, if_neg h2]; exact ho m h1 h2 h3⟩
  · obtain ⟨w, b⟩ := s
    refine T.step hn ?_ ?_ ?_ fun e => absurd e hrc
    · cases w <;> (simp only [goR, hs, Eng.does]; rfl)
    · cases w <;> (simp only [goR, hs, Eng.does]; rfl)
    · cases w <;> (simp only [goR, hs, Eng.does]; rfl)
  · obtain ⟨w, b⟩ := s
    cases w with
    | true => exact I.writeStep hn hs fun v h1 h2 h3 => hoth b v h1 h2 h3 (step_mem hs)
    | false =>
      refine I.readStep hn X.nd hs (fun e => absurd e hrc) ?_ ?_
      · intro hb
        rw [begun_newest O]
        refine newest_nil ?_
        rw [I.chain]
        refine List.filter_eq_nil_iff.mpr fun q hq => ?_
        subst hb
        simpa using O.no1 (take_rs O hq)
      · intro i q h1 h2 hb
        rw [begun_newest O]
        have hij : i + 1 = j := by
          have := (List.getElem?_inj (by have := (List.getElem?_eq_some_iff.mp h2).1; omega) O.rn).mp (h2.trans hr.symm)
          omega
        have hqm : q ∈ S.rs.take j := by
          refine List.mem_of_getElem? (i := i) ?_
          rw [List.getElem?_take, if_pos (by omega)]
          exact h1
        have hqw : (true, b) ∈ S.D q := by
          have := (O.row i q h1).own
          rw [hb]; exact this
        refine newest_all ?_ ?_
        · intro w hw
          obtain ⟨hwe, hww⟩ := rows_sub I hw
          have hwq : w = q := by
            obtain ⟨i', hi', h6, X'⟩ := O.rowAt (take_rs O hwe)
            have h7 := X'.wr b hww
            have : i' = i := by omega
            subst this
            rw [h1] at hi'
            exact (Option.some.inj hi').symm
          refine ⟨hwq, ?_⟩
          obtain ⟨t, ht⟩ := Option.ne_none_iff_exists'.mp ((T.stop w).mpr hwe)
          have lt : t < R.E.startOf r := by
            cases z : R.E.start r with
            | none =>
              have := T.t2 w t ht
              simp only [Eng.startOf, z, Option.getD_none]; omega
            | some s =>
              simp only [Eng.startOf, z, Option.getD_some]
              exact T.t3 w t r s ht hn hrc z
          unfold Eng.seesB
          rw [ht, Option.getD_some, decide_eq_true lt]
          simp
        · rw [I.chain, List.mem_filter]
          exact ⟨hqm, decide_eq_true hqw⟩

theorem take_snoc {j : Nat} {r : Int} (hr : S.rs[j]? = some r) : S.rs.take j ++ [r] = S.rs.take (j + 1) := by
  rw [List.take_add_one, hr]; rfl

theorem rowAll {j : Nat} {r : Int} : ∀ (k : Nat) (R : RunSt), RowPh S R j r → R.done r + k = (S.D r).length →
    AllSteps S R (List.replicate (k + 1) r) ∧ TIv S (runR S.D R (List.replicate (k + 1) r)).E (S.rs.take (j + 1)) ∧ SI S (runR S.D R (List.replicate (k + 1) r)) (S.rs.take (j + 1)) ∧
      (runR S.D R (List.replicate (k + 1) r)).done S.c = S.cut + 1 ∧ ∀ m, m ≠ S.c → m ∉ S.rs.take (j + 1) → (runR S.D R (List.replicate (k + 1) r)).done m = 0
  | 0, R, P, hk => by
    have hn := P.notin O
    have P' := P
    obtain ⟨T, I, hr, dc, ho⟩ := P
    have hrm : r ∈ S.rs := List.mem_of_getElem? hr
    have hrc : r ≠ S.c := fun e => O.cn (e ▸ hrm)
    obtain ⟨c1, m1⟩ := cstart O (by omega) T I
    have X := O.row j r hr
    have hs : nextStep S.D R r = none := List.getElem?_eq_none_iff.mpr (by omega)
    have hlen1 := X.len1
    have hd : ∀ m, (goR S.D R r).done m = if m = r then R.done r + 1 else R.done m := by intro m; simp [goR, setf]
    have hoth : ∀ b v, v ≠ r → v ∉ S.rs.take j → (true, b) ∈ pr S R v → (true, b) ∉ S.D r := by
      intro b v h1 h2 h3 h4
      by_cases hv : v = S.c
      · subst hv
        have := O.c1 (pr_sub h3)
        subst this
        exact O.no1 hrm h4
      · unfold pr at h3
        rw [ho v hv h1 h2] at h3
        cases h3
    have ok := row_ok T I hn hrc (fun m hm => O.rng m (List.mem_cons_of_mem _ (take_rs O hm))) X.nd hoth
    have hst : R.E.start r ≠ none := fun h => by have := (I.start0 r).mp h; omega
    have hce : S.c ∉ S.rs.take j := fun h => O.cn (take_rs O h)
    refine ⟨⟨⟨⟨(O.rng r (List.mem_cons_of_mem _ hrm)).1, (O.rng r (List.mem_cons_of_mem _ hrm)).2, by omega, ok⟩, fun _ => ?_⟩, trivial⟩, ?_, ?_, ?_, ?_⟩
    · constructor
      · intro h; exact absurd h (no_bar O T I hn hrc hce (by omega))
      · rintro ⟨h, _⟩; exact absurd h hrc
    · rw [← take_snoc O hr]
      show TIv S (goR S.D R r).E _
      refine T.endStep hn hrc m1 hst ?_ ?_ ?_ fun m h1 h2 h3 => (I.start0 m).mpr (ho m h3 h2 h1)
      · simp only [goR, hs, Eng.does]; rfl
      · simp only [goR, hs, Eng.does]; rfl
      · simp only [goR, hs, Eng.does]; rfl
    · rw [← take_snoc O hr]
      exact I.endStep hn X.len1 hs
    · show (goR S.D R r).done S.c = _
      rw [hd, if_neg hrc.symm]; exact dc
    · intro m h1 h2
      rw [← take_snoc O hr] at h2
      have h3 : m ≠ r := fun e => h2 (by simp [e])
      have h4 : m ∉ S.rs.take j := fun e => h2 (List.mem_append_left _ e)
      show (goR S.D R r).done m = _
      rw [hd, if_neg h3]; exact ho m h1 h3 h4
  | k + 1, R, P, hk => by
    have hlt : R.done r < (S.D r).length := by omega
    obtain ⟨s, hs⟩ : ∃ s, nextStep S.D R r = some s := ⟨_, List.getElem?_eq_getElem hlt⟩
    obtain ⟨ok, P2⟩ := rowStep O P hs
    have hrm : r ∈ S.rs := List.mem_of_getElem? P.hr
    have e0 : (goR S.D R r).done r = R.done r + 1 := by simp [goR, setf]
    obtain ⟨a1, a2⟩ := rowAll k (goR S.D R r) P2 (by omega)
    refine ⟨⟨⟨⟨(O.rng r (List.mem_cons_of_mem _ hrm)).1, (O.rng r (List.mem_cons_of_mem _ hrm)).2, Nat.le_of_lt hlt, ok⟩, fun h => ?_⟩, a1⟩, a2⟩
    rw [hs] at h; cases h

/-- all rows from the j-th on -/
theorem rowsAll : ∀ (m j : Nat) (R : RunSt), j + m = S.rs.length → TIv S R.E (S.rs.take j) → SI S R (S.rs.take j) → R.done S.c = S.cut + 1 → (∀ m, m ≠ S.c → m ∉ S.rs.take j → R.done m = 0) →
    AllSteps S R ((S.rs.drop j).flatMap fun r => List.replicate ((S.D r).length + 1) r) ∧
      TIv S (runR S.D R ((S.rs.drop j).flatMap fun r => List.replicate ((S.D r).length + 1) r)).E S.rs ∧ SI S (runR S.D R ((S.rs.drop j).flatMap fun r => List.replicate ((S.D r).length + 1) r)) S.rs ∧
      (runR S.D R ((S.rs.drop j).flatMap fun r => List.replicate ((S.D r).length + 1) r)).done S.c = S.cut + 1 ∧
      ∀ m, m ≠ S.c → m ∉ S.rs → (runR S.D R ((S.rs.drop j).flatMap fun r => List.replicate ((S.D r).length + 1) r)).done m = 0
  | 0, j, R, hj, T, I, dc, ho => by
    have e1 : S.rs.drop j = [] := List.drop_eq_nil_of_le (by omega)
    have e2 : S.rs.take j = S.rs := List.take_of_length_le (by omega)
    rw [e2] at T I ho
    rw [e1]
    exact ⟨trivial, T, I, dc, ho⟩
  | m + 1, j, R, hj, T, I, dc, ho => by
    have hlt : j < S.rs.length := by omega
    obtain ⟨r, hr⟩ : ∃ r, S.rs[j]? = some r := ⟨_, List.getElem?_eq_getElem hlt⟩
    have e1 : S.rs.drop j = r :: S.rs.drop (j + 1) := by
      rw [List.drop_eq_getElem_cons hlt]
      congr 1
      rw [List.getElem?_eq_getElem hlt] at hr
      exact Option.some.inj hr
    have P : RowPh S R j r := ⟨T, I, hr, dc, fun m h1 _ h3 => ho m h1 h3⟩
    have hrm : r ∈ S.rs := List.mem_of_getElem? hr
    have hrc : r ≠ S.c := fun e => O.cn (e ▸ hrm)
    have d0 := ho r hrc (P.notin O)
    obtain ⟨a1, a2, a3, a4, a5⟩ := rowAll O (S.D r).length R P (by omega)
    obtain ⟨b1, b2⟩ := rowsAll m (j + 1) _ (by omega) a2 a3 a4 a5
    rw [e1, List.flatMap_cons]
    refine ⟨a1.append b1, ?_⟩
    rw [runR_append]
    exact b2
end
end K60

set_option linter.all false
namespace K60
variable {S : Cfg} {R : RunSt} {es : List Int}
theorem TIv.apartE {E : Eng} (T : TIv S E es) (hst : ∀ m ∈ es, E.start m ≠ none) {a b : Int} (ha : a ∈ es) (hb : b ∈ es) (hab : a ≠ b) : E.overlap a b = false := by
  have key : ∀ x y, x ∈ es → y ∈ es → (∀ t s u, E.stop x = some t → E.start y = some s → E.stop y = some u → t < s ∧ t < u) → E.overlap x y = false ∧ E.overlap y x = false := by
    intro x y hx hy h
    obtain ⟨t, ht⟩ := Option.ne_none_iff_exists'.mp ((T.stop x).mpr hx)
    obtain ⟨s, e⟩ := Option.ne_none_iff_exists'.mp (hst y hy)
    obtain ⟨u, eu⟩ := Option.ne_none_iff_exists'.mp ((T.stop y).mpr hy)
    have lt := (h t s u ht e eu).1
    have f : decide (E.startOf y < E.stopOf x) = false := by
      simp only [Eng.startOf, Eng.stopOf, e, ht, Option.getD_some]
      exact decide_eq_false (by omega)
    constructor
    · unfold Eng.overlap; rw [f]; simp
    · unfold Eng.overlap; rw [f]; simp
  rcases pairs_or T.t4 ha hb hab with h | h
  · exact (key a b ha hb h).1
  · exact (key b a hb ha h).2

theorem pr_ended (I : SI S R es) {m : Int} (h : m ∈ es) : pr S R m = S.D m := by
  unfold pr
  rw [I.ended m h]
  exact List.take_of_length_le (by omega)
theorem started (I : SI S R es) {m : Int} (h : m ∈ es) : R.E.start m ≠ none := fun e => by
  have := (I.start0 m).mp e
  have := I.ended m h
  omega
theorem rank_m1 (E : Eng) (b : Int) : E.rank b (-1) = -1 := by simp [Eng.rank]
theorem rank_pos (E : Eng) {b w : Int} (h : w ≠ -1) : 0 ≤ E.rank b w := by
  simp only [Eng.rank, h, if_false]
  omega
section
variable (O : S.Ok)
include O
theorem barEnd_iff (T : TIv S R.E S.rs) (I : SI S R S.rs) (hd : R.done S.c = 3) : R.E.BarEnd S.c ↔ S.Due := by
  have hprc : pr S R S.c = S.D S.c := by
    unfold pr; rw [hd, ← O.mlen]; exact List.take_length
  obtain ⟨c1, m1⟩ := cstart O (by omega) T I
  have hcn : R.E.stop S.c = none := by
    cases q : R.E.stop S.c with
    | none => rfl
    | some t => exact absurd ((T.stop _).mp (by simp [q])) O.cn
  have hsc : R.E.stopOf S.c = R.E.mom + 1 := by simp [Eng.stopOf, hcn]
  have hstc : R.E.startOf S.c = 1 := by simp [Eng.startOf, c1]
  have hsr : ∀ m ∈ S.rs, ∃ t, R.E.stop m = some t ∧ 1 < t ∧ t ≤ R.E.mom := by
    intro m hm
    obtain ⟨t, ht⟩ := Option.ne_none_iff_exists'.mp ((T.stop m).mpr hm)
    exact ⟨t, ht, T.t2 m t ht⟩
  have hputc : ∀ b, b ∈ R.E.put S.c ↔ b = 1 := by
    intro b
    rw [I.put, hprc, mem_writes, O.mmem]
    simp
  have hputr : ∀ m ∈ S.rs, ∀ b, b ∈ R.E.put m ↔ (true, b) ∈ S.D m := by
    intro m hm b
    rw [I.put, pr_ended I hm, mem_writes]
  have hpos : ∀ m ∈ S.c :: S.rs, m ≠ -1 := by
    intro m hm e
    have := (O.rng m hm).1
    omega
  have whr : ∀ m, m ≠ S.c → R.E.Wh S.c m → m ∈ S.rs ∧ S.lv m = .whole := by
    rintro m hm (⟨h, g⟩ | h)
    · exact ⟨(T.stop m).mp h, by rw [← I.gr]; exact g⟩
    · exact absurd h hm
  have pastX : ∀ x ∈ S.rs, (R.E.goesPast x S.c = true ↔ (false, 1) ∈ S.D x) := by
    intro x hx
    unfold Eng.goesPast
    rw [List.any_eq_true]
    constructor
    · rintro ⟨b, hb, h⟩
      rw [hputc] at hb
      subst hb
      rw [← pr_ended I hx, ← I.dom]
      intro e
      unfold Eng.pastB at h
      rw [e] at h
      cases h
    · intro h
      rw [← pr_ended I hx, ← I.dom] at h
      obtain ⟨v, hv⟩ := Option.ne_none_iff_exists'.mp h
      refine ⟨1, (hputc 1).mpr rfl, ?_⟩
      unfold Eng.pastB
      rw [hv]
      have := I.s1 x v hv
      subst this
      show decide _ = true
      rw [rank_m1]
      have := rank_pos R.E (b := 1) (hpos S.c List.mem_cons_self)
      exact decide_eq_true (by omega)
  have pastZ : S.lv S.c = .whole → ∀ z ∈ S.rs, (R.E.goesPast S.c z = true ↔ ((true, 0) ∈ S.D z ∨ (true, 2) ∈ S.D z)) := by
    intro hw z hz
    unfold Eng.goesPast
    rw [List.any_eq_true]
    constructor
    · rintro ⟨b, hb, h⟩
      rw [hputr z hz] at hb
      have h2 : (false, b) ∈ S.D S.c := by
        rw [← hprc, ← I.dom]
        intro e
        unfold Eng.pastB at h
        rw [e] at h
        cases h
      have h3 := (O.mmem _).mp h2
      simp at h3
      rcases h3 with rfl | rfl
      · exact .inl hb
      · exact .inr hb
    · intro h
      have : ∃ b, (b = 0 ∨ b = 2) ∧ (true, b) ∈ S.D z := by
        rcases h with h | h
        · exact ⟨0, .inl rfl, h⟩
        · exact ⟨2, .inr rfl, h⟩
      obtain ⟨b, hb, hm⟩ := this
      refine ⟨b, (hputr z hz b).mpr hm, ?_⟩
      have h2 : (false, b) ∈ pr S R S.c := by
        rw [hprc, O.mmem]
        rcases hb with rfl | rfl <;> simp
      rw [← I.dom] at h2
      obtain ⟨v, hv⟩ := Option.ne_none_iff_exists'.mp h2
      unfold Eng.pastB
      rw [hv]
      have := I.sC b v hv (.inr (by rw [hw]; decide))
      subst this
      show decide _ = true
      rw [rank_m1]
      have := rank_pos R.E (b := b) (hpos z (List.mem_cons_of_mem _ hz))
      exact decide_eq_true (by omega)
  constructor
  · rintro ⟨hg, y, hy, x, z, hx, hz, ⟨hxy, ov, px⟩, ⟨hzy, oz, pz, lz⟩, hord, _⟩
    by_cases hyc : y = S.c
    · subst hyc
      obtain ⟨hxr, xw⟩ := whr x hxy hx
      obtain ⟨hzr, zw⟩ := whr z hzy hz
      have hw : S.lv S.c = .whole := by rw [← I.gr]; exact hg
      obtain ⟨i, hi⟩ := List.mem_iff_getElem?.mp hzr
      obtain ⟨j, hj⟩ := List.mem_iff_getElem?.mp hxr
      refine ⟨hw, i, j, z, x, ?_, hi, hj, zw, xw, (pastZ hw z hzr).mp pz, (pastX x hxr).mp px⟩
      apply Nat.le_of_not_lt
      intro hlt
      have hil := List.getElem?_eq_some_iff.mp hi
      have hjl := List.getElem?_eq_some_iff.mp hj
      obtain ⟨hi1, hi2⟩ := hil
      obtain ⟨hj1, hj2⟩ := hjl
      have q := List.pairwise_iff_getElem.mp T.t4 j i hj1 hi1 hlt
      rw [hi2, hj2] at q
      obtain ⟨t, ht, _⟩ := hsr x hxr
      obtain ⟨u, hu, _⟩ := hsr z hzr
      obtain ⟨s, hs⟩ := Option.ne_none_iff_exists'.mp (started I hzr)
      have q := (q t s u ht hs hu).2
      rcases hord with e | h
      · subst e
        rw [ht] at hu
        cases hu
        omega
      · simp only [Eng.stopOf, ht, hu, Option.getD_some] at h
        omega
    · obtain ⟨hyr, yw⟩ := whr y hyc hy
      obtain ⟨t, ht, _, ht2⟩ := hsr y hyr
      by_cases hzc : z = S.c
      · subst hzc
        simp only [hsc, Eng.stopOf, ht, Option.getD_some, hcn, Option.getD_none] at lz
        omega
      · obtain ⟨hzr, _⟩ := whr z hzc hz
        have := T.apartE (fun m hm => started I hm) hzr hyr hzy
        rw [oz] at this
        cases this
  · rintro ⟨hw, i, j, z, x, hij, hi, hj, zw, xw, hz, hx⟩
    have hzr := List.mem_of_getElem? hi
    have hxr := List.mem_of_getElem? hj
    have hxc : x ≠ S.c := fun e => O.cn (e ▸ hxr)
    have hzc : z ≠ S.c := fun e => O.cn (e ▸ hzr)
    obtain ⟨t, ht, t1, t2⟩ := hsr x hxr
    obtain ⟨u, hu, u1, u2⟩ := hsr z hzr
    have ovc : ∀ m ∈ S.rs, R.E.overlap m S.c = true := by
      intro m hm
      obtain ⟨t, ht, t1, t2⟩ := hsr m hm
      obtain ⟨s, hs⟩ := Option.ne_none_iff_exists'.mp (started I hm)
      have := T.t5 m s hs
      unfold Eng.overlap
      simp only [hsc, hstc, Eng.stopOf, Eng.startOf, ht, hs, Option.getD_some, hcn, c1, Option.getD_none]
      rw [decide_eq_true (by omega), decide_eq_true (by omega)]
      rfl
    refine ⟨by rw [I.gr]; exact hw, S.c, .inr rfl, x, z, .inl ⟨by rw [ht]; simp, by rw [I.gr]; exact xw⟩, .inl ⟨by rw [hu]; simp, by rw [I.gr]; exact zw⟩,
      ⟨hxc, ovc x hxr, (pastX x hxr).mpr hx⟩, ⟨hzc, ovc z hzr, (pastZ hw z hzr).mpr hz, ?_⟩, ?_, .inr rfl⟩
    · simp only [Eng.stopOf, hu, hcn, Option.getD_some, Option.getD_none]; omega
    · by_cases e : i = j
      · subst e
        rw [hi] at hj
        exact .inl (Option.some.inj hj).symm
      · right
        obtain ⟨hi1, hi2⟩ := List.getElem?_eq_some_iff.mp hi
        obtain ⟨hj1, hj2⟩ := List.getElem?_eq_some_iff.mp hj
        have q := List.pairwise_iff_getElem.mp T.t4 i j hi1 hj1 (by omega)
        rw [hi2, hj2] at q
        obtain ⟨s, hs⟩ := Option.ne_none_iff_exists'.mp (started I hxr)
        have q := (q u s t hu hs ht).2
        simp only [Eng.stopOf, ht, hu, Option.getD_some]
        exact q

theorem cPost : ∀ (k : Nat) (R : RunSt), TIv S R.E S.rs → SI S R S.rs → (∀ m, m ≠ S.c → m ∉ S.rs → R.done m = 0) → S.cut + 1 ≤ R.done S.c → R.done S.c + k = 3 →
    AllSteps S R (List.replicate (k + 1) S.c) ∧ SI S (runR S.D R (List.replicate (k + 1) S.c)) (S.rs ++ [S.c])
  | 0, R, T, I, ho, hcut, hk => by
    have ok := c_ok O T I O.cn (fun _ h => h) ho
    have hs : nextStep S.D R S.c = none := List.getElem?_eq_none_iff.mpr (by rw [O.mlen]; omega)
    refine ⟨⟨⟨⟨(O.rng S.c List.mem_cons_self).1, (O.rng S.c List.mem_cons_self).2, by rw [O.mlen]; omega, ok⟩, fun _ => ?_⟩, trivial⟩, I.endStep O.cn (by rw [O.mlen]; omega) hs⟩
    rw [barEnd_iff O T I (by omega)]
    exact ⟨fun h => ⟨rfl, h⟩, fun h => h.2⟩
  | k + 1, R, T, I, ho, hcut, hk => by
    have hlt : R.done S.c < (S.D S.c).length := by rw [O.mlen]; omega
    obtain ⟨s, hs⟩ : ∃ s, nextStep S.D R S.c = some s := ⟨_, List.getElem?_eq_getElem hlt⟩
    have ok := c_ok O T I O.cn (fun _ h => h) ho
    obtain ⟨c1, m1⟩ := cstart O (by omega) T I
    have hd : ∀ m, (goR S.D R S.c).done m = if m = S.c then R.done S.c + 1 else R.done m := by intro m; simp [goR, setf]
    have hmom : (goR S.D R S.c).E.mom = R.E.mom + 1 := by
      obtain ⟨w, b⟩ := s
      cases w <;> (simp only [goR, hs, Eng.does]; rfl)
    have T' : TIv S (goR S.D R S.c).E S.rs := by
      refine T.step O.cn hmom ?_ ?_ ?_
      · obtain ⟨w, b⟩ := s
        cases w <;> (simp only [goR, hs, Eng.does]; rfl)
      · obtain ⟨w, b⟩ := s
        cases w <;> (simp only [goR, hs, Eng.does]; rfl)
      · intro _ h
        rw [c1] at h
        cases h
    have I' : SI S (goR S.D R S.c) S.rs := by
      obtain ⟨w, b⟩ := s
      cases w with
      | false =>
        refine I.readStep O.cn O.mnd hs ?_ ?_ ?_
        · intro _ hb
          have hb0 : b ≠ 0 := by
            intro e
            subst e
            have h5 : (S.D S.c)[S.cut]? = (S.D S.c)[R.done S.c]? := by rw [O.hat]; exact hs.symm
            have := (List.getElem?_inj (List.getElem?_eq_some_iff.mp O.hat).1 O.mnd).mp h5
            omega
          have hl : S.lv S.c ≠ .lax := by
            rcases hb with h | h
            · exact absurd h hb0
            · exact h
          rw [begun_newest O]
          refine newest_none fun w hw => ?_
          obtain ⟨t, ht⟩ := Option.ne_none_iff_exists'.mp ((T.stop w).mpr (rows_sub I hw).1)
          have := T.t2 w t ht
          unfold Eng.seesB
          rw [I.gr, decide_eq_false hl, ht, Option.getD_some]
          simp only [Eng.startOf, c1, Option.getD_some, Bool.false_or]
          exact decide_eq_false (by omega)
        · intro hb
          subst hb
          have := (O.mmem _).mp (step_mem hs)
          simp at this
        · intro i q h1 h2
          exact absurd (List.mem_of_getElem? h2) O.cn
      | true =>
        refine I.writeStep O.cn hs fun v hv hv2 h => ?_
        unfold pr at h
        rw [ho v hv hv2] at h
        cases h
    obtain ⟨a1, a2⟩ := cPost k (goR S.D R S.c) T' I' (fun m h h2 => by rw [hd, if_neg h]; exact ho m h h2) (by rw [hd, if_pos rfl]; omega) (by rw [hd, if_pos rfl]; omega)
    refine ⟨⟨⟨⟨(O.rng S.c List.mem_cons_self).1, (O.rng S.c List.mem_cons_self).2, Nat.le_of_lt hlt, ok⟩, fun h => ?_⟩, a1⟩, a2⟩
    rw [hs] at h; cases h

def _root_.K60.Cfg.weave (S : Cfg) : List Int := List.replicate (S.cut + 1) S.c ++ (S.rs.flatMap fun r => List.replicate ((S.D r).length + 1) r) ++ List.replicate (3 - S.cut) S.c

/-- THE RUN: each step is fine, an end is barred just at the end of the cut one and where it is due; what stands behind it -/
theorem theRun : AllSteps S (init S.lv) S.weave ∧ SI S (runR S.D (init S.lv) S.weave) (S.rs ++ [S.c]) := by
  have hcut : S.cut < 3 := by
    have := (List.getElem?_eq_some_iff.mp O.hat).1
    rw [O.mlen] at this; exact this
  have T0 : TIv S (init S.lv).E [] := ⟨by simp [init], by simp [init], by simp [init], by simp [init], by simp [init], by simp [init], List.Pairwise.nil⟩
  have hp0 : ∀ m, pr S (init S.lv) m = [] := fun m => by simp [pr, init]
  have I0 : SI S (init S.lv) [] := by
    refine ⟨rfl, by simp [init], by simp, by simp [init], fun b => rfl, by simp [init], ?_, ?_, ?_, by simp [init], by simp [init], by simp [init], by simp [init], by simp [init]⟩
    · intro v b _ h; rw [hp0] at h; cases h
    · intro m; rw [hp0]; rfl
    · intro m b; rw [hp0]; simp [init]
  obtain ⟨a1, a2, a3, a4, a5, a6⟩ := cPre O (S.cut + 1) (init S.lv) T0 I0 (fun _ _ => rfl) rfl (by show 0 + (S.cut + 1) ≤ 3; omega)
  have d1 : (runR S.D (init S.lv) (List.replicate (S.cut + 1) S.c)).done S.c = S.cut + 1 := by rw [a6]; simp [init]
  obtain ⟨b1, b2, b3, b4, b5⟩ := rowsAll O S.rs.length 0 (runR S.D (init S.lv) (List.replicate (S.cut + 1) S.c)) (by omega) (by simpa using a2) (by simpa using a3) d1 (fun m h _ => a4 m h)
  rw [List.drop_zero] at b1 b2 b3 b4 b5
  have e : 3 - S.cut = (2 - S.cut) + 1 := by omega
  obtain ⟨c1, c2⟩ := cPost O (2 - S.cut) _ b2 b3 b5 (by omega) (by omega)
  unfold Cfg.weave
  rw [e]
  refine ⟨(a1.append b1).append ?_, ?_⟩
  · rw [runR_append]; exact c1
  · rw [runR_append, runR_append]; exact c2
end
end K60

set_option Elab.async false
set_option linter.all false
set_option maxRecDepth 100000
set_option maxHeartbeats 4000000
/-! K60W: the texts by places, the data as it stands in the heap, rules of our own. -/
namespace K60
open PySem L2 PySem.Spec
def top (i : Nat) : Stmt := PySem.Challenge.pw_asifalone_k60_whole_barred_by_the_order.main.body.getD i (.Pass ⟨0, 0, 0, 0⟩)

/-! ### data -/
def wd (b : Bool) : Str := if b = true then "write" else "read"
def lvS : Lv → Str
  | .lax => "lax"
  | .still => "still"
  | .whole => "whole"
theorem wd_inj : ∀ {a b : Bool}, wd a = wd b → a = b
  | true, true, _ => rfl
  | false, false, _ => rfl
  | true, false, h => absurd h (by decide +kernel)
  | false, true, h => absurd h (by decide +kernel)
theorem lvS_inj : ∀ {a b : Lv}, lvS a = lvS b → a = b
  | .lax, .lax, _ => rfl
  | .still, .still, _ => rfl
  | .whole, .whole, _ => rfl
  | .lax, .still, h => absurd h (by decide +kernel)
  | .lax, .whole, h => absurd h (by decide +kernel)
  | .still, .lax, h => absurd h (by decide +kernel)
  | .still, .whole, h => absurd h (by decide +kernel)
  | .whole, .lax, h => absurd h (by decide +kernel)
  | .whole, .still, h => absurd h (by decide +kernel)

theorem same_tup {K : PySem.W.Frag} {H H' : Hp} {a : Addr} {xs : List V} (e : Same H H') (h : SqT K H a xs) : SqT K H' a xs := by
  rcases h with (h | ⟨o, h⟩) | h
  · exact .inl (.inl (e _ _ h))
  · exact .inl (.inr ⟨o, e _ _ h⟩)
  · exact .inr h
theorem same_upd {H H' : Hp} {a : Addr} {o : HO} (e : Same H H') (h : H a = none) : Same H (upd H' a o) := fun b u q => by
  have : b ≠ a := fun z => by rw [z, h] at q; cases q
  rw [upd_ne this]
  exact e b u q
theorem same_new {H : Hp} {a : Addr} {o : HO} (h : H a = none) : Same H (upd H a o) := same_upd (Same.refl H) h

section
variable (K : PySem.W.Frag)
def StepAt (H : Hp) (v : V) (s : Stp) : Prop := ∃ t, v = .ref t ∧ SqT K H t [.str (wd s.1), .int s.2]
def DealAt (H : Hp) (v : V) (d : Deal) : Prop := ∃ p vs, v = .ref p ∧ SqT K H p vs ∧ Paired (StepAt K H) vs d
def DealsAt (H : Hp) (v : V) (ds : List Deal) : Prop := ∃ a vs, v = .ref a ∧ SqL K H a vs ∧ Paired (DealAt K H) vs ds
def LvsAt (H : Hp) (v : V) (ls : List Lv) : Prop := ∃ a, v = .ref a ∧ SqL K H a (ls.map fun l => .str (lvS l))
def IntsAt (H : Hp) (v : V) (ns : List Int) : Prop := ∃ a, v = .ref a ∧ SqL K H a (ns.map V.int)
variable {K}
theorem StepAt.mono {H H' : Hp} (e : Same H H') {v : V} {s : Stp} : StepAt K H v s → StepAt K H' v s := fun ⟨t, a, b⟩ => ⟨t, a, same_tup e b⟩
theorem DealAt.mono {H H' : Hp} (e : Same H H') {v : V} {d : Deal} : DealAt K H v d → DealAt K H' v d := fun ⟨p, vs, a, b, c⟩ => ⟨p, vs, a, same_tup e b, Paired.mapP c fun _ _ => StepAt.mono e⟩
theorem DealsAt.mono {H H' : Hp} (e : Same H H') {v : V} {ds : List Deal} : DealsAt K H v ds → DealsAt K H' v ds := fun ⟨p, vs, a, b, c⟩ => ⟨p, vs, a, e.seq b, Paired.mapP c fun _ _ => DealAt.mono e⟩
theorem LvsAt.mono {H H' : Hp} (e : Same H H') {v : V} {ds : List Lv} : LvsAt K H v ds → LvsAt K H' v ds := fun ⟨p, a, b⟩ => ⟨p, a, e.seq b⟩
theorem IntsAt.mono {H H' : Hp} (e : Same H H') {v : V} {ds : List Int} : IntsAt K H v ds → IntsAt K H' v ds := fun ⟨p, a, b⟩ => ⟨p, a, e.seq b⟩

theorem paired_get {α β : Type} {F : α → β → Prop} : ∀ {l : List α} {m : List β}, Paired F l m → ∀ {i : Nat} {x : α}, l[i]? = some x → ∃ y, m[i]? = some y ∧ F x y
  | _, _, .nil, _, _, h => by simp at h
  | _, _, .cons r t, 0, _, h => by simp at h; subst h; exact ⟨_, rfl, r⟩
  | _, _, .cons r t, i + 1, _, h => by
    obtain ⟨y, h1, h2⟩ := paired_get t (i := i) (by simpa using h)
    exact ⟨y, by simpa using h1, h2⟩
theorem paired_get' {α β : Type} {F : α → β → Prop} : ∀ {l : List α} {m : List β}, Paired F l m → ∀ {i : Nat} {y : β}, m[i]? = some y → ∃ x, l[i]? = some x ∧ F x y
  | _, _, .nil, _, _, h => by simp at h
  | _, _, .cons r t, 0, _, h => by simp at h; subst h; exact ⟨_, rfl, r⟩
  | _, _, .cons r t, i + 1, _, h => by
    obtain ⟨y, h1, h2⟩ := paired_get' t (i := i) (by simpa using h)
    exact ⟨y, by simpa using h1, h2⟩
theorem paired_snoc {α β : Type} {F : α → β → Prop} : ∀ {l : List α} {m : List β} {x : α} {y : β}, Paired F l m → F x y → Paired F (l ++ [x]) (m ++ [y])
  | _, _, _, _, .nil, h => .cons h .nil
  | _, _, _, _, .cons r t, h => .cons r (paired_snoc t h)
theorem paired_take {α β : Type} {F : α → β → Prop} : ∀ {l : List α} {m : List β} (n : Nat), Paired F l m → Paired F (l.take n) (m.take n)
  | _, _, 0, _ => by simp; exact .nil
  | _, _, _ + 1, .nil => by simp; exact .nil
  | _, _, n + 1, .cons r t => by simp; exact .cons r (paired_take n t)
theorem paired_drop {α β : Type} {F : α → β → Prop} : ∀ {l : List α} {m : List β} (n : Nat), Paired F l m → Paired F (l.drop n) (m.drop n)
  | _, _, 0, h => by simpa using h
  | _, _, _ + 1, .nil => by simp; exact .nil
  | _, _, n + 1, .cons r t => by simp; exact paired_drop n t
theorem paired_append {α β : Type} {F : α → β → Prop} : ∀ {l l' : List α} {m m' : List β}, Paired F l m → Paired F l' m' → Paired F (l ++ l') (m ++ m')
  | _, _, _, _, .nil, h => h
  | _, _, _, _, .cons r t, h => .cons r (paired_append t h)
theorem paired_len {α β : Type} {F : α → β → Prop} {l : List α} {m : List β} (h : Paired F l m) : l.length = m.length := Paired.length h

/-! ### as nested data -/
def stpD (s : Stp) : PyData := .tuple [.str (wd s.1), .int s.2]
theorem StepAt.dp {H : Hp} {v : V} {s : Stp} (h : StepAt K H v s) : Dp K H v (stpD s) := by
  obtain ⟨t, rfl, h⟩ := h
  exact .tup h (.cons (.str _) (.cons (.int _) .nil))
theorem steps_dp {H : Hp} : ∀ {vs : List V} {d : Deal}, Paired (StepAt K H) vs d → DpAll K H vs (d.map stpD)
  | _, _, .nil => .nil
  | _, _, .cons r t => .cons r.dp (steps_dp t)
theorem stpD_eqv (s u : Stp) : PyData.eqv (stpD s) (stpD u) = decide (s = u) := by
  obtain ⟨a, b⟩ := s
  obtain ⟨a', b'⟩ := u
  have e : PyData.eqv (stpD (a, b)) (stpD (a', b')) = ((wd a == wd a') && ((b == b') && true)) := by simp only [stpD, PyData.eqv, PyData.eqvAll]
  rw [e]
  by_cases h : a = a'
  · subst h
    by_cases h2 : b = b'
    · subst h2; simp
    · simp [h2]
  · have : ¬ wd a = wd a' := fun q => h (wd_inj q)
    simp [h, this]
theorem wd_ok : ∀ b : Bool, PyData.strOk (wd b) = true
  | true => by decide +kernel
  | false => by decide +kernel
theorem stpD_shaped (s : Stp) : SeqAt.shaped (stpD s) = true := by
  show ((stpD s).canLay0 && decide ((stpD s).depth ≤ 64)) = true
  simp [stpD, PyData.canLay0, PyData.canLayAll0, PyData.depth, PyData.depthAll, wd_ok]
theorem stpDs_lay : ∀ d : Deal, PyData.canLayAll0 (d.map stpD) = true
  | [] => by simp [PyData.canLayAll0]
  | z :: zs => by
    have := stpDs_lay zs
    simp [PyData.canLayAll0, this]
    simp [stpD, PyData.canLay0, PyData.canLayAll0, wd_ok]
theorem stpDs_depth : ∀ d : Deal, PyData.depthAll (d.map stpD) ≤ 1
  | [] => by simp [PyData.depthAll]
  | z :: zs => by
    have h1 := stpDs_depth zs
    have h2 : (stpD z).depth = 1 := by simp [stpD, PyData.depth, PyData.depthAll]
    simp only [List.map_cons, PyData.depthAll]
    omega
theorem stpDs_shapedT (d : Deal) : SeqAt.shaped (.tuple (d.map stpD)) = true := by
  have h1 := stpDs_depth d
  show (PyData.canLay0 (.tuple (d.map stpD)) && decide (PyData.depth (.tuple (d.map stpD)) ≤ 64)) = true
  have h2 : PyData.depth (.tuple (d.map stpD)) ≤ 64 := by simp only [PyData.depth]; omega
  rw [decide_eq_true h2, Bool.and_true]
  simp only [PyData.canLay0]; exact stpDs_lay d
theorem stpDs_shapedL (d : Deal) : SeqAt.shaped (.list (d.map stpD)) = true := by
  have h1 := stpDs_depth d
  show (PyData.canLay0 (.list (d.map stpD)) && decide (PyData.depth (.list (d.map stpD)) ≤ 64)) = true
  have h2 : PyData.depth (.list (d.map stpD)) ≤ 64 := by simp only [PyData.depth]; omega
  rw [decide_eq_true h2, Bool.and_true]
  simp only [PyData.canLay0]; exact stpDs_lay d
theorem any_stpD (d : Deal) (s : Stp) : ((d.map stpD).any fun z => PyData.eqv z (stpD s)) = decide (s ∈ d) := by
  induction d with
  | nil => rfl
  | cons x d ih =>
    rw [List.map_cons, List.any_cons, ih, stpD_eqv]
    by_cases h : x = s
    · subst h; simp
    · have : ¬ s = x := fun e => h e.symm
      simp [h, this]
end

/-! ### rules of our own -/
section
variable {X : Cx}
def rInDT (K : PySem.W.Frag) : R2 := fun x y H Q => ∃ d ds, Dp K H x d ∧ Dp K H y (.tuple ds) ∧ SeqAt.shaped d = true ∧ SeqAt.shaped (.tuple ds) = true ∧ Q (.bl (ds.any fun z => PyData.eqv z d)) H
def rNotInDT (K : PySem.W.Frag) : R2 := fun x y H Q => ∃ d ds, Dp K H x d ∧ Dp K H y (.tuple ds) ∧ SeqAt.shaped d = true ∧ SeqAt.shaped (.tuple ds) = true ∧ Q (.bl (!ds.any fun z => PyData.eqv z d)) H
theorem op_inDT (hu : X.A.units + 65 < cLine) : OpR X (compareOp .In) (rInDT X.K) := by
  intro pins s σ H x y v u Q I rx ry h
  obtain ⟨d, ds, hd, he, sd, se, q⟩ := h
  obtain ⟨as, r1⟩ := Dp.reads I d x v hd rx
  obtain ⟨bs, r2⟩ := Dp.reads I (.tuple ds) y u he ry
  exact SeqAt.in_tuple_reads r2 r1 (SeqAt.canLay_of_shaped se) (SeqAt.canLay_of_shaped sd) (PyProof.Rows.room_in_shaped sd hu) ⟨.bl _, H, I, rfl, q⟩
theorem op_notInDT (hu : X.A.units + 65 < cLine) : OpR X (compareOp .NotIn) (rNotInDT X.K) := by
  intro pins s σ H x y v u Q I rx ry h
  obtain ⟨d, ds, hd, he, sd, se, q⟩ := h
  obtain ⟨as, r1⟩ := Dp.reads I d x v hd rx
  obtain ⟨bs, r2⟩ := Dp.reads I (.tuple ds) y u he ry
  exact SeqAt.notIn_tuple_reads r2 r1 (SeqAt.canLay_of_shaped se) (SeqAt.canLay_of_shaped sd) (PyProof.Rows.room_in_shaped sd hu) ⟨.bl _, H, I, rfl, q⟩

/-- a step in a dealing: as the rule's reading -/
theorem in_deal {K : PySem.W.Frag} {H : Hp} {x y : V} {s : Stp} {d : Deal} {Q : VK} (hx : StepAt K H x s) (hy : DealAt K H y d) (h : Q (.bl (decide (s ∈ d))) H) : rInDT K x y H Q := by
  obtain ⟨p, vs, rfl, hp, hv⟩ := hy
  exact ⟨_, _, hx.dp, .tup hp (steps_dp hv), stpD_shaped s, stpDs_shapedT d, by rw [any_stpD]; exact h⟩
theorem notin_deal {K : PySem.W.Frag} {H : Hp} {x y : V} {s : Stp} {d : Deal} {Q : VK} (hx : StepAt K H x s) (hy : DealAt K H y d) (h : Q (.bl (!decide (s ∈ d))) H) : rNotInDT K x y H Q := by
  obtain ⟨p, vs, rfl, hp, hv⟩ := hy
  exact ⟨_, _, hx.dp, .tup hp (steps_dp hv), stpD_shaped s, stpDs_shapedT d, by rw [any_stpD]; exact h⟩
end
end K60

set_option Elab.async false
set_option linter.all false
set_option maxRecDepth 100000
set_option maxHeartbeats 4000000
/-! K60N: rules that the layer lacks. -/
namespace PySem
open Sem (wp)
open AutoSeq1 (wpAny_loadPart')
/-- enumerate(v), v told by how its iterator begins -/
theorem K60_enumNew {v : Value} {o : Obj} {H : Heap → Prop} (B : Begins v o H) :
    Meets (Builtin.«enumerate.__new__» ⟨[.type "enumerate", v], []⟩) (fun _ R s => H s.heap ∧
      R (.ok (.ret (.ref (s.heap.push o).objs.size))) { s with heap := (s.heap.push o).push { cls := .type "enumerate", data := .fields #[.none, .bool false, .ref s.heap.objs.size, rawInt 0, .none, .none] } }) :=
  .of_wp fun prog w A R s h => by
    obtain ⟨hp, g, d, tk, os⟩ := s; obtain ⟨h1, h⟩ := h
    have hsub := sub_enumerate
    have q1 : ∀ {A' : Around} {E : Value → Shared → Prop} {Q : Value → Shared → Prop}, Q (.ref hp.objs.size) ⟨hp.push o, g, d, tk, os⟩ → wpAny (model prog w) A' (pyIter v) Q E ⟨hp, g, d, tk, os⟩ :=
      fun q => B.iter prog w _ _ ⟨hp, g, d, tk, os⟩ _ h1 q
    wp_walk using q1
    refine wpAny_stack_any fun st => wpAny_pure ?_
    split
    · rename_i c _ _ _ _ _
      cases (c == Value.type "enumerate")
      · wp_walk using q1
        exact ⟨_, rfl, h⟩
      · wp_walk using q1
        exact ⟨_, rfl, h⟩
    · wp_walk using q1
      exact ⟨_, rfl, h⟩
section
variable {prog : Program} {w : World} {A : Around} {E : Value → Shared → Prop} {s : Shared}
theorem K60_callEnum {v : Value} {o : Obj} {H : Heap → Prop} {Q : Value → Shared → Prop} (B : Begins v o H) (h1 : H s.heap)
    (h : ∀ h', IsEnum h' (s.heap.objs.size + 1) s.heap.objs.size 0 .none → h'.get? s.heap.objs.size = some o → h'.objs.size = s.heap.objs.size + 2 →
      (∀ b o, s.heap.get? b = some o → h'.get? b = some o) → Q (.ref (s.heap.objs.size + 1)) { s with heap := h' }) :
    wpAny (model prog w) A (call (.type "enumerate") [v]) Q E s := by
  refine callType_new F.called_enumerate (by decide) (F.typeCall_enumerate_1 _) (F.newCall_enumerate_1 _) (fun obj => F.args_object_init_2 obj _) F.entry_enumerate_new
    (K60_enumNew B) ⟨h1, ?_⟩
  have hz : (s.heap.push o).objs.size = s.heap.objs.size + 1 := Heap.size_push ..
  show _ ∧ _
  rw [hz]
  have he : IsEnum ((s.heap.push o).push { cls := .type "enumerate", data := .fields #[.none, .bool false, .ref s.heap.objs.size, rawInt 0, .none, .none] }) (s.heap.objs.size + 1) s.heap.objs.size 0 .none := by
    have := Heap.get?_push_size (s.heap.push o) (o := { cls := .type "enumerate", data := .fields #[.none, .bool false, .ref s.heap.objs.size, rawInt 0, .none, .none] }) rfl
    rw [hz] at this; exact this
  refine ⟨⟨_, he, rfl⟩, h _ he (Heap.get?_push_of_some _ (Heap.get?_push_size _ B.free)) (by rw [Heap.size_push, hz]) fun b o x => Heap.get?_push_of_some _ (Heap.get?_push_of_some _ x)⟩
end
end PySem
namespace K60
open PySem L2 PySem.Spec
/-! ### enumerate(a tuple) -/
def IteT (K : PySem.W.Frag) (a : Addr) : It :=
  ⟨fun i H => ∃ (xs : List V) (x : V), SqT K H a xs ∧ xs[i]? = some x, fun i H v H' => ∃ T x, v = .ref T ∧ H T = none ∧ H' = upd H T (.tup [.int (i : Nat), x]) ∧ ∀ xs, SqT K H a xs → xs[i]? = some x, fun i H => ∃ xs : List V, SqT K H a xs ∧ xs.length ≤ i⟩
theorem turn_enumT {P : Program} {w : World} {K : PySem.W.Frag} {elts : List Expr} {kk : Nat} {tpos : Pos} (a e it : Addr) :
    Turn P w K (.Tuple elts kk tpos) (IteT K a) [e, it] e (fun i h => (∃ old, IsEnum h e it ((i : Nat) : Int) old) ∧ h.IsTupleIter it a i ∧ e ≠ it) where
  mem := by simp
  obj := fun i h st b hb => by
    obtain ⟨⟨old, he⟩, ⟨o, ho, hc, hd⟩, _⟩ := st
    have e' : b = e ∨ b = it := by simpa using hb
    rcases e' with z | z
    · rw [z]; exact ⟨_, he, fun v q => nomatch q⟩
    · rw [z]; exact ⟨o, ho, fun v q => by rw [hd] at q; cases q⟩
  keep := fun i h h' st k => let ⟨⟨old, he⟩, hi, hne⟩ := st; ⟨⟨old, k e (by simp) _ he⟩, hi.at fun o q => k it (by simp) o q, hne⟩
  item := by
    intro X hP hw hK hc i pins s σ H E I hf st hg
    subst hP hw hK
    obtain ⟨⟨old, he⟩, hit, hne⟩ := st
    obtain ⟨xs, x, hq, hx⟩ := hg
    obtain ⟨its, rv, p, hz⟩ := I.tuple hq
    obtain ⟨u, hu, ru⟩ := rv.get hx
    have hel : e < s.heap.objs.size := Heap.lt_size he
    have hil : it < s.heap.objs.size := by obtain ⟨_, q, _⟩ := hit; exact Heap.lt_size q
    have hai : a ≠ it := by
      obtain ⟨o1, q1, q2, _⟩ := p
      obtain ⟨o2, r1, r2, _⟩ := hit
      intro z; subst z; rw [q1] at r1; cases r1; rw [q2] at r2; exact absurd r2 (by decide +kernel)
    have hae : e ≠ a := by
      obtain ⟨o1, q1, q2, _⟩ := p
      intro z; subst z
      have he' := he
      unfold IsEnum at he'
      rw [q1] at he'; cases he'; exact absurd (show Value.type "enumerate" = Value.type "tuple" from q2) (by decide +kernel)
    have D := Draws.tuple (prog := X.prog) (w := X.w) (A := X.A.in1) (I.ok.hd hc) it a hai its.toArray
    have hil2 : i < its.toArray.size := by
      have := (List.getElem?_eq_some_iff.mp hu).1
      simpa using this
    refine wpAny_pyNext_enum_itemD D he ⟨hit, p⟩ hil2 hne (by simp [hne, hae]) fun u' h' tk hP ho hst' hT hsz hk => ?_
    have eu : u' = u := by
      have : its[i]? = some u' := by simpa using hP
      rw [hu] at this; exact (Option.some.inj this).symm
    subst eu
    refine ⟨_, rfl, wpAny_letOwnedTupleGo_enum (s := { s with heap := h', toks := tk + 1 }) ho fun h'' he' sb => ?_⟩
    have hT2 : h''.get? s.heap.objs.size = some { cls := .type "tuple", data := .seq #[.int i tk, u'] } := (sb.2 _ (Nat.ne_of_gt hel)).trans hT
    have new : ObjOk X.prog X.w (upd H s.heap.objs.size (.tup [.int (i : Nat), x])) h'' s.heap.objs.size (.tup [.int (i : Nat), x]) :=
      ⟨by show 2 ≤ sizeLine; decide, [.int i tk, u'], .cons ⟨_, rfl⟩ (.cons ru .nil), ⟨_, hT2, rfl, _, rfl⟩⟩
    have I1 : Inv X pins σ (upd H s.heap.objs.size (.tup [.int (i : Nat), x])) { s with heap := h'', toks := tk + 1 } :=
      I.turnedNew (ch := [e, it]) (fun b ob hb q => (sb.2 b (fun z => hb (by simp [z]))).trans (hk b ob (fun z => hb (by simp [z])) (fun z => hb (by simp [z])) q)) hf (Nat.le_refl _) new
    refine ⟨.ref s.heap.objs.size, _, I1, rfl, ⟨_, x, rfl, I.hok.fresh (Nat.le_refl _), rfl, fun ys hy => by rw [I.tuple_inj hy hq]; exact hx⟩, ⟨⟨u', ?_⟩, hst'.1.at fun o q => (sb.2 it (Ne.symm hne)).trans q, hne⟩, fun b hb => ?_⟩
    · have e1 : ((i + 1 : Nat) : Int) = (i : Int) + 1 := by omega
      rw [e1]; exact he'
    · have hb' : b < s.heap.objs.size := by
        have e' : b = e ∨ b = it := by simpa using hb
        rcases e' with z | z
        · rw [z]; exact hel
        · rw [z]; exact hil
      rw [upd_ne (Nat.ne_of_lt hb')]
      exact (hf b hb).1
  done := by
    intro X hP hw hK hc i pins s σ H E I hf st hg
    subst hP hw hK
    obtain ⟨⟨old, he⟩, hit, hne⟩ := st
    obtain ⟨xs, hq, hx⟩ := hg
    obtain ⟨its, rv, p, hz⟩ := I.tuple hq
    obtain ⟨f0, f1, f2, f3, f4, f5⟩ := hf it (by simp)
    have hl := rv.length
    have hai : a ≠ it := by
      obtain ⟨o1, q1, q2, _⟩ := p
      obtain ⟨o2, r1, r2, _⟩ := hit
      intro z; subst z; rw [q1] at r1; cases r1; rw [q2] at r2; exact absurd r2 (by decide +kernel)
    refine wpAny_pyNext_enum_endD (n := 0) (P := fun _ _ => False) (fp := [it, a]) (St := fun j h => h.IsTupleIter it a (j + i) ∧ h.IsTuple a its.toArray) ⟨?_, ?_, ?_, ?_⟩ he ⟨by rw [Nat.zero_add]; exact hit, p⟩ fun h' eb => ⟨rfl, I.turned (t' := s.toks) (fun b o hb q => eb b o hb q) f0 f1 f3 f4 f5⟩
    · exact fun _ _ st => let ⟨o, ho, _⟩ := st.1; ⟨o, ho⟩
    · exact fun _ _ _ st hk => ⟨st.1.at fun o e => hk it (by simp) o e, st.2.at fun o e => hk a (by simp) o e⟩
    · intro j s1 Q1 E1 hj st hQ
      exact absurd hj (Nat.not_lt_zero _)
    · exact fun s Q E st hE => wpAny_nextOf_tuple_end (show X.A.in1.handled = none from I.ok.hd hc) st.1 st.2 (by simp; omega) hE
  self := fun A i s Q E st h => let ⟨⟨_, he⟩, _⟩ := st; wpAny_pyIter_enum he h
def iEnumT (K : PySem.W.Frag) (ta : TA) : TI := fun σ H R => ta σ H fun vs H1 => ∃ a xs, vs = [.ref a] ∧ SqT K H1 a xs ∧ R (IteT K a) H1
theorem pi_enumT {X : Cx} {e : Expr} {ta : TA} {p pos tpos : Pos} {elts : List Expr} {kk : Nat} (hg : Gl X "enumerate") (hm : X.mg "enumerate" = none) (ha : PA X [e] ta) (hs : starEach [e] X.env = [(false, eval e X.env)] := by rfl) :
    PI X (.Tuple elts kk tpos) (.Call (.Name "enumerate" p) [e] [] pos) (iEnumT X.K ta) := by
  refine ⟨fun pins s σ H R I h => ?_⟩
  refine PyProof.Rows.Call_ (ld_blt I hg hm PyProof.Rows.boot_enumerate (PyProof.Rows.callWith_type1 (thn (ha.run pos pins s σ H _ I h) fun us s1 ⟨vs, H1, I1, r1, q1⟩ => ?_) hs rfl))
  obtain ⟨a, xs, ex, hq, q⟩ := q1
  subst ex
  cases r1 with
  | cons r rr =>
    cases rr
    cases r
    obtain ⟨its, rv, p', hz⟩ := I1.tuple hq
    refine K60_callEnum (begins_tuple a its.toArray) p' fun h' he hit hsz hk => wpAny_pyIter_enum he ?_
    have I2 : Inv X pins σ H1 { s1 with heap := h' } := I1.kept (t' := s1.toks) hk
    refine ⟨s1.heap.objs.size + 1, [s1.heap.objs.size + 1, s1.heap.objs.size], _, _, H1, rfl, I2, turn_enumT a (s1.heap.objs.size + 1) s1.heap.objs.size, ⟨⟨.none, he⟩, ⟨_, hit, rfl, rfl⟩, Nat.succ_ne_self _⟩, fun b hb => ?_, q⟩
    have e' : b = s1.heap.objs.size + 1 ∨ b = s1.heap.objs.size := by simpa using hb
    have hle : s1.heap.objs.size ≤ b := by
      rcases e' with z | z
      · rw [z]; exact Nat.le_add_right _ _
      · rw [z]; exact Nat.le_refl _
    exact I1.fpOk hle (I1.hok.fresh hle)

/-! ### loops over enumerate: the pair is a new tuple at T -/
theorem for_enumT {K : PySem.W.Frag} {a : Addr} {xs : List V} {g : TG} {tb : TS} {D : Ends} {σ : St} {H : Hp} (Pv : Nat → St → Hp → Prop) (h0 : Pv 0 σ H) (hl : ∀ i σ H, i ≤ xs.length → Pv i σ H → SqT K H a xs)
    (hs : ∀ i x σ H T, xs[i]? = some x → Pv i σ H → H T = none → g (.ref T) σ (upd H T (.tup [.int (i : Nat), x])) fun σ2 H2 => tb { D with nx := Pv (i + 1), ct := Pv (i + 1), bk := D.nx } σ2 H2) (hd : ∀ σ H, Pv xs.length σ H → D.nx σ H) :
    ∃ W : Nat → Nat → St → Hp → Prop, (∃ m, W 0 m σ H) ∧ ∀ i m σ H, W i m σ H → ((IteT K a).stop i H ∧ D.nx σ H) ∨ ((IteT K a).go i H ∧ ∃ N : St → Hp → Prop, (∀ σ' H', N σ' H' → ∃ m', m' < m ∧ W (i + 1) m' σ' H') ∧
      ∀ x H', (IteT K a).yld i H x H' → g x σ H' fun σ2 H2 => tb { D with nx := N, ct := N, bk := D.nx } σ2 H2) := by
  refine ⟨fun i m σ H => m = xs.length - i ∧ i ≤ xs.length ∧ Pv i σ H, ⟨xs.length, by simp, Nat.zero_le _, h0⟩, ?_⟩
  rintro i m σ H ⟨rfl, hi, p⟩
  have q := hl i σ H hi p
  by_cases hlt : i < xs.length
  · refine .inr ⟨⟨xs, xs[i], q, by simp [hlt]⟩, Pv (i + 1), fun σ' H' p' => ⟨xs.length - (i + 1), by omega, rfl, hlt, p'⟩, fun x H' y => ?_⟩
    obtain ⟨T, z, rfl, hT, rfl, hz⟩ := y
    exact hs i z σ H T (hz xs q) p hT
  · have e : i = xs.length := by omega
    subst e
    exact .inl ⟨⟨xs, q, Nat.le_refl _⟩, hd σ H p⟩
theorem for_enum {K : PySem.W.Frag} {a : Addr} {xs : List V} {g : TG} {tb : TS} {D : Ends} {σ : St} {H : Hp} (Pv : Nat → St → Hp → Prop) (h0 : Pv 0 σ H) (hl : ∀ i σ H, i ≤ xs.length → Pv i σ H → SqL K H a xs)
    (hs : ∀ i x σ H T, xs[i]? = some x → Pv i σ H → H T = none → g (.ref T) σ (upd H T (.tup [.int (i : Nat), x])) fun σ2 H2 => tb { D with nx := Pv (i + 1), ct := Pv (i + 1), bk := D.nx } σ2 H2) (hd : ∀ σ H, Pv xs.length σ H → D.nx σ H) :
    ∃ W : Nat → Nat → St → Hp → Prop, (∃ m, W 0 m σ H) ∧ ∀ i m σ H, W i m σ H → ((Ite K a).stop i H ∧ D.nx σ H) ∨ ((Ite K a).go i H ∧ ∃ N : St → Hp → Prop, (∀ σ' H', N σ' H' → ∃ m', m' < m ∧ W (i + 1) m' σ' H') ∧
      ∀ x H', (Ite K a).yld i H x H' → g x σ H' fun σ2 H2 => tb { D with nx := N, ct := N, bk := D.nx } σ2 H2) := by
  refine ⟨fun i m σ H => m = xs.length - i ∧ i ≤ xs.length ∧ Pv i σ H, ⟨xs.length, by simp, Nat.zero_le _, h0⟩, ?_⟩
  rintro i m σ H ⟨rfl, hi, p⟩
  have q := hl i σ H hi p
  by_cases hlt : i < xs.length
  · refine .inr ⟨⟨xs, xs[i], q, by simp [hlt]⟩, Pv (i + 1), fun σ' H' p' => ⟨xs.length - (i + 1), by omega, rfl, hlt, p'⟩, fun x H' y => ?_⟩
    obtain ⟨T, z, rfl, hT, rfl, hz⟩ := y
    exact hs i z σ H T (hz xs q) p hT
  · have e : i = xs.length := by omega
    subst e
    exact .inl ⟨⟨xs, q, Nat.le_refl _⟩, hd σ H p⟩
end K60

set_option Elab.async false
set_option linter.all false
set_option maxRecDepth 100000
set_option maxHeartbeats 4000000
/-! K60M: set(a list of ints), as a set whose order is known. -/
namespace L2
open PySem PySem.Spec PyProof.Rows
abbrev k60o (w : World) : Obj := { cls := .type "set", dict := none, data := .set #[] 0 (.fresh 0 0 (!w.params.followText "set-order")) }
section
variable {P : Program} {w : World} {A : Around} {E : Value → Shared → Prop} {s : Shared}
set_option maxHeartbeats 3200000 in
theorem k60_set_list {l : Addr} {its : List Value} (ns : List Int) {Q : Value → Shared → Prop} (hh : A.handled = none) (hl : s.heap.IsList l its.toArray) (hit : IntsAre its ns) (hb : ns.length + 1 < scanBound)
    (h : ∀ (h' : Heap) (tk c : Nat), SetR w h' s.heap.objs.size (fun j => decide (j ∈ ns)) c → c ≤ ns.length → (∀ b o, s.heap.get? b = some o → h'.get? b = some o) → Q (.ref s.heap.objs.size) { s with heap := h', toks := tk }) :
    wpAny (model P w) A (call (.type "set") [.ref l]) Q E s := by
  have size_its : its.toArray.size = ns.length := by rw [List.size_toArray]; exact IntsAre.length hit
  obtain ⟨cM, tM, mroM⟩ := F.called_set.mro
  have madeM := F.called_set.made
  have subM := F.called_set.sub
  have ntM := F.called_set.notType
  have ccM := F.called_set.canCreate
  have tcM := F.typeCall_set_1 (.ref l)
  refine wpAny_call (codeAny_of_tree ?_)
  show wpAny _ _ (callAny (.type "set") _) _ _ _
  refine wpAny_pure ⟨Code.quiet_builtin _ (by decide +kernel), codeAny_builtin F.entry_type_call ?_⟩
  rw [Around.under_plain (weight_type_call_type "set" [.ref l] []) rfl]
  repeat (any_goals (first | assumption | wp_step))
  refine codeAny_mono (code_set_led1 (.ref l) (E := E) (Q₁ := fun ob z => ob = .ref s.heap.objs.size ∧ z = { s with heap := s.heap.push (k60o w) }) ⟨rfl, rfl⟩) fun res z hz => ?_
  cases res with
  | error e => exact hz
  | ok flow =>
    cases flow with
    | next => exact hz.elim
    | brk => exact hz.elim
    | cont => exact hz.elim
    | ret ob =>
      obtain ⟨rfl, rfl⟩ := hz
      have at0 : (s.heap.push (k60o w)).get? s.heap.objs.size = some (k60o w) := Heap.get?_push_size _ rfl
      have ty0 : Shared.TypeIs { s with heap := s.heap.push (k60o w) } (.ref s.heap.objs.size) "set" := ⟨_, at0, rfl⟩
      have lookI := F.called_set.init.lookup
      have bindI := F.called_set.init.bind (.ref s.heap.objs.size)
      repeat (any_goals (first | assumption | wp_step))
      refine codeAny_mono (codeAny_call_builtin (R := wants (fun r z2 => r = .none ∧ ∃ h' tk c, z2 = { s with heap := h', toks := tk } ∧ SetR w h' s.heap.objs.size (fun j => decide (j ∈ ns)) c ∧ c ≤ ns.length ∧
          ∀ b o, s.heap.get? b = some o → h'.get? b = some o) E) F.called_set.init.plain F.entry_set_init (check_set_init_1 ty0 ?_)) fun res2 z2 hz2 => ?_
      · obtain ⟨⟨oc, od, odt, osl⟩, getL, clsL, nL, dataL⟩ := hl
        replace clsL : oc = .type "list" := clsL
        replace dataL : odt = .seq its.toArray nL := dataL
        subst clsL dataL
        have getL1 : (s.heap.push (k60o w)).get? l = some { cls := .type "list", dict := od, data := .seq its.toArray nL, slots := osl } := Heap.get?_push_of_some _ getL
        have no1 := F.sub_list_set
        have no2 := F.sub_list_frozenset
        have no3 : (Value.type "list" == Value.type "dict") = false := by decide
        have lst1 : (s.heap.push (k60o w)).IsList l its.toArray := ⟨_, getL1, rfl, nL, rfl⟩
        unfold Builtin.«set.__init__» noKeywords Builtin.Frozenset.updateFrom
        generalize hPI : pyIter = PI
        wp_walk
        subst hPI
        refine wpAny_pyIter_list lst1 (wpAny_bind (wpAny_runValue ?_))
        have ltL : l < s.heap.objs.size := Heap.lt_size getL
        have sz1 : (s.heap.push (k60o w)).objs.size = s.heap.objs.size + 1 := Heap.size_push ..
        have apart : l ≠ (s.heap.push (k60o w)).objs.size := by rw [sz1]; exact Nat.ne_of_lt (Nat.lt_succ_of_lt ltL)
        have out : s.heap.objs.size ∉ [(s.heap.push (k60o w)).objs.size, l] := by
          rw [sz1]
          simp only [List.mem_cons, List.not_mem_nil, or_false, not_or]
          exact ⟨Nat.ne_of_lt (Nat.lt_succ_self _), Nat.ne_of_gt ltL⟩
        have vals : ∀ (i : Nat) (v : Value), its.toArray[i]? = some v → ∃ k t, ns[i]? = some k ∧ v = .int k t := fun i v hv => by
          have hv' : its[i]? = some v := by simpa using hv
          have hi : i < ns.length := by rw [← IntsAre.length hit]; exact (List.getElem?_eq_some_iff.mp hv').1
          obtain ⟨t, e⟩ := PyProof.Rows.IntsAre.int_at hit i v hv'
          refine ⟨ns[i], t, List.getElem?_eq_getElem hi, ?_⟩
          rw [e, List.getD_eq_getElem?_getD, List.getElem?_eq_getElem hi] <;> rfl
        refine set_update_ints ((Walks.list (show A.in1.in1.in1.handled = none from hh) _ l apart its.toArray).toS) s.heap.objs.size out ns size_its hb vals (its.toArray.size - 0) 0 _ (by omega) (Nat.zero_le _)
          ⟨⟨_, Heap.get?_push_size _ rfl, rfl, rfl⟩, lst1.push _⟩ ⟨0, Nat.le_refl 0, setR_new_at (Heap.get?_push_of_some _ at0)⟩ ?_
        intro z3 c3 moved hc3 hS3
        obtain ⟨h3, g3, d3, t3, o3⟩ := z3
        have eg : g3 = s.gens := moved.gens
        have ed : d3 = s.drawn := moved.drawn
        have eo : o3 = s.os := moved.os
        subst eg; subst ed; subst eo
        show wpAny _ _ _ _ _ _
        refine wpAny_pure ?_
        show wpAny _ _ (ret Value.none) _ _ _
        refine wpAny_pure ⟨rfl, h3, t3, c3, rfl, hS3, by rw [← size_its]; exact hc3, fun b o e => ?_⟩
        have lt : b < s.heap.objs.size := Heap.lt_size e
        refine moved.heap b o ?_ (Heap.get?_push_of_some _ (Heap.get?_push_of_some _ e))
        rw [sz1]
        simp only [List.mem_cons, List.not_mem_nil, or_false, not_or]
        exact ⟨Nat.ne_of_lt lt, Nat.ne_of_lt (Nat.lt_succ_of_lt lt)⟩
      · cases res2 with
        | error e => exact hz2
        | ok flow2 =>
          cases flow2 with
          | next => exact hz2.elim
          | brk => exact hz2.elim
          | cont => exact hz2.elim
          | ret r =>
            obtain ⟨rfl, h2, t2, c2, rfl, hS2, hc2, kp2⟩ := hz2
            repeat (any_goals (first | assumption | wp_step))
            exact h _ _ _ hS2 hc2 kp2
end
end L2
namespace K60
open PySem L2 PySem.Spec
def rSetList (K : PySem.W.Frag) (w : World) : List V → Hp → VK → Prop := fun vs H Q => ∃ (a : Addr) (ns : List Int), vs = [V.ref a] ∧ SqL K H a (ns.map V.int) ∧ ns.length ≤ 60 ∧
  ∀ p c, H p = none → c ≤ ns.length → Q (.ref p) (upd H p (SetO w p (fun j => decide (j ∈ ns)) c))
theorem cr_setList {X : Cx} (hc : X.calm = true) : CallR X (.type "set") (rSetList X.K X.w) := by
  intro pins s σ H vs us Q I r h
  obtain ⟨a, ns, rfl, hs, hl, q⟩ := h
  obtain ⟨u, rfl, ru⟩ := vals1 r
  obtain rfl : u = Value.ref a := ru
  obtain ⟨its, rv, hL, hz⟩ := I.list hs
  refine k60_set_list ns (I.ok.hd hc) hL.isList (ints_of_vals rv) (by unfold scanBound; omega) fun h' tk c R hc' kp => ?_
  exact ⟨.ref _, upd H s.heap.objs.size (SetO X.w s.heap.objs.size (fun j => decide (j ∈ ns)) c), I.laid (t' := tk) kp (Nat.le_refl _) (setO_new R), rfl, q _ c (I.hok.fresh (Nat.le_refl _)) hc'⟩
/-- xs[i] of a list, for xs[i] op= e -/
def rGetL : V → V → Hp → VK → Prop := fun o i H Q => ∃ p xs k j v, o = .ref p ∧ i = .int k ∧ H p = some (.lst xs) ∧ ixN xs.length k = some j ∧ xs[j]? = some v ∧ Q v H
end K60

set_option Elab.async false
set_option linter.all false
set_option maxRecDepth 100000
set_option maxHeartbeats 4000000
/-! K60O: more rules that the layer lacks: xs[i] op= e, t.index(step), sorted(ties), min(lists, key=len). -/
namespace K60
open PySem L2 PySem.Spec
section
variable {X : Cx}
/-- xs[i] of a list, for xs[i] op= e -/
def rGet (K : PySem.W.Frag) : V → V → Hp → VK → Prop := fun o i H Q => ∃ (p : Addr) (xs : List V) (j : Nat) (v : V), o = .ref p ∧ i = .int j ∧ SqL K H p xs ∧ xs[j]? = some v ∧ Q v H
theorem pget_list : PGet X (rGet X.K) := by
  intro pins s σ H o i ov iv Q I ro ri h
  obtain ⟨p, xs, j, v, rfl, rfl, hs, hv, q⟩ := h
  cases ro
  obtain ⟨t, rfl⟩ := ri
  obtain ⟨its, r, pl, hz⟩ := I.list hs
  obtain ⟨u, hu, ru⟩ := r.get hv
  have hj := (List.getElem?_eq_some_iff.mp hv).1
  have := line63
  exact wpAny_getItem_list pl.isList (by omega) (by omega) (by simpa using hu) ⟨v, H, I, ru, q⟩

theorem idx_get {α : Type} [DecidableEq α] {l : List α} {x : α} (h : x ∈ l) : l[@List.idxOf α instBEqOfDecidableEq x l]? = some x := by
  rw [List.getElem?_eq_getElem (List.idxOf_lt_length_iff.mpr h), List.getElem_idxOf]
/-- t.index(step) of a dealing -/
def rTupIx (K : PySem.W.Frag) : V → List V → Hp → VK → Prop := fun x xs H Q => ∃ (d : Deal) (y : V) (st : Stp), xs = [y] ∧ DealAt K H x d ∧ StepAt K H y st ∧ st ∈ d ∧ ∀ j : Nat, d[j]? = some st → Q (.int j) H
theorem mt_tupIx (hu : X.A.units + 65 < cLine) : MtR X "tuple.index" (rTupIx X.K) := by
  intro pins s σ H x xs v us Q I rx rxs h
  obtain ⟨d, y, st, rfl, ⟨p, vs, rfl, hp, hv⟩, hy, hm, q⟩ := h
  cases rx
  obtain ⟨u, rfl, ru⟩ := rxs.one
  obtain ⟨its, rv, hT, hz⟩ := I.tuple hp
  obtain ⟨as, r1⟩ := Dp.reads I (stpD st) y u hy.dp ru
  obtain ⟨bs, r2⟩ := Dp.readsAll I (d.map stpD) vs its (steps_dp hv) rv
  have hlay := stpDs_lay d
  have hmap := SeqAt.readsAll_map (d.map stpD) its bs hlay r2
  have hl1 : its.length = d.length := by rw [← rv.length, paired_len hv]
  refine SeqAt.call_tuple_index (ks := d) (k := st) hT ⟨hl1, fun j h1 h2 => ?_⟩ hm ⟨.int _, H, I.tok _, ⟨_, rfl⟩, q _ (idx_get hm)⟩
  have dep : (stpD st).depth = 1 := by simp [stpD, PyData.depth, PyData.depthAll]
  have e := SeqAt.items_eqAt (s := s) (A := X.A) (vs := its.toArray) (show ReadsAll s.heap its.toArray.toList _ _ from r2) r1 hlay (SeqAt.canLay_of_shaped (stpD_shaped st))
    (by have := Nat.min_le_right (PyData.depthAll (d.map stpD)) (stpD st).depth; omega) its[j] (by simp)
  have e2 : SeqAt.readOf s.heap its[j] = stpD d[j] := by
    have z : (its.map (SeqAt.readOf s.heap))[j]? = (d.map stpD)[j]? := by rw [hmap]
    rw [List.getElem?_map, List.getElem?_map, List.getElem?_eq_getElem h1, List.getElem?_eq_getElem h2] at z
    exact Option.some.inj z
  rw [e2, stpD_eqv] at e
  exact e
end

/-! ### ties -/
abbrev Tie := Int × Int × Nat × Int
def kdS : Nat → Str
  | 0 => "over"
  | 1 => "from"
  | _ => "past"
def tieV (t : Tie) : List V := [.int t.1, .int t.2.1, .str (kdS t.2.2.1), .int t.2.2.2]
def TieAt (K : PySem.W.Frag) (H : Hp) (v : V) (t : Tie) : Prop := ∃ p, v = .ref p ∧ SqT K H p (tieV t)
theorem TieAt.mono {K : PySem.W.Frag} {H H' : Hp} (e : Same H H') {v : V} {t : Tie} : TieAt K H v t → TieAt K H' v t := fun ⟨p, a, b⟩ => ⟨p, a, same_tup e b⟩
def tieD (t : Tie) : PyData := .tuple [.int t.1, .int t.2.1, .str (kdS t.2.2.1), .int t.2.2.2]
theorem TieAt.dp {K : PySem.W.Frag} {H : Hp} {v : V} {t : Tie} (h : TieAt K H v t) : Dp K H v (tieD t) := by
  obtain ⟨p, rfl, h⟩ := h
  exact .tup h (.cons (.int _) (.cons (.int _) (.cons (.str _) (.cons (.int _) .nil))))
theorem each_of_get {α β : Type} {R : α → β → Prop} : ∀ {l : List α} {m : List β}, l.length = m.length → (∀ (i : Nat) x y, l[i]? = some x → m[i]? = some y → R x y) → PySem.W.EachIs R l m
  | [], [], _, _ => .nil
  | [], _ :: _, h, _ => by simp at h
  | _ :: _, [], h, _ => by simp at h
  | x :: l, y :: m, h, f => .cons (f 0 x y rfl rfl) (each_of_get (by simpa using h) fun i a b ha hb => f (i + 1) a b (by simpa using ha) (by simpa using hb))
theorem vals_of_each : ∀ {us : List Value} {bs : List (V × Tie)}, PySem.W.EachIs (fun (v : Value) (b : V × Tie) => RelV b.1 v) us bs → Vals (bs.map (·.1)) us
  | _, _, .nil => .nil
  | _, _, .cons r t => .cons r (vals_of_each t)
section
variable {X : Cx}
def rSortTies (K : PySem.W.Frag) : List V → Hp → VK → Prop := fun vs H Q => ∃ (a : Addr) (xs : List V) (ts : List Tie), vs = [V.ref a] ∧ SqL K H a xs ∧ Paired (TieAt K H) xs ts ∧
  ∀ (zs : List (V × Tie)) (p : Addr), zs.Perm (xs.zip ts) → H p = none → Q (.ref p) (upd H p (.lst (zs.map (·.1))))
theorem cr_sortTies (hu : X.A.units + 65 < cLine) : CallR X (.builtin "sorted") (rSortTies X.K) := by
  intro pins s σ H vs us Q I r h
  obtain ⟨a, xs, ts, rfl, hs, hp, q⟩ := h
  obtain ⟨u, rfl, ru⟩ := vals1 r
  obtain rfl : u = Value.ref a := ru
  obtain ⟨its, rv, hL, hz⟩ := I.list hs
  have hl := paired_len hp
  have hl2 := rv.length
  have hzl : (xs.zip ts).length = xs.length := by rw [List.length_zip, ← hl, Nat.min_self]
  have key : ∀ (i : Nat) (v : Value) (b : V × Tie), its[i]? = some v → (xs.zip ts)[i]? = some b → RelV b.1 v ∧ ∃ as, Reads s.heap v (tieD b.2) as := by
    intro i v b hv hb
    rw [List.getElem?_zip_eq_some] at hb
    obtain ⟨h1, h2⟩ := hb
    obtain ⟨w', hw, rw'⟩ := rv.get h1
    rw [hv] at hw
    cases hw
    obtain ⟨t, ht, hT⟩ := paired_get hp h1
    rw [h2] at ht
    cases ht
    exact ⟨rw', Dp.reads I _ _ _ hT.dp rw'⟩
  refine PySem.W.sorted_data (vs := its) (bs := xs.zip ts) (enc := fun b => tieD b.2) (R := fun v b => RelV b.1 v) hL.isList (each_of_get (by rw [hzl, hl2]) fun i v b h1 h2 => (key i v b h1 h2).1) (each_of_get (by rw [hzl, hl2]) fun i v b h1 h2 => (key i v b h1 h2).2)
    (PySem.W.AllAlike.of fun b b' => by simp [tieD, PySem.W.alike, PySem.W.alikeAll]) (PySem.W.Sortable.tuples fun b => ⟨_, _, rfl⟩) (by rw [hzl]; exact hz) (fun b _ => by
      have : (tieD b.2).depth = 1 := by simp [tieD, PyData.depth, PyData.depthAll]
      omega) fun out ho he => ?_
  obtain ⟨ep, he'⟩ := PyProof.Rows.sortedAll_at s.heap its out.toArray
  have hperm : ((xs.zip ts).mergeSort (PySem.W.dataLe false fun b => tieD b.2)).Perm (xs.zip ts) := List.mergeSort_perm _ _
  refine ⟨.ref _, upd H (s.heap.objs.size + 1) (.lst (((xs.zip ts).mergeSort (PySem.W.dataLe false fun b => tieD b.2)).map (·.1))), I.laid (t' := s.toks) (fun _ _ => PyProof.Rows.sortedAll_old) (Nat.le_succ _) ⟨?_, out, ep, vals_of_each he, he'⟩, rfl, q _ _ hperm (I.hok.fresh (Nat.le_succ _))⟩
  rw [List.length_map, hperm.length_eq, hzl]; exact hz

/-! ### min(rings, key=len): some item -/
def tMinLen (K : PySem.W.Frag) (ta : TE) : TE := fun σ H Q => ta σ H fun x H1 => ∃ (l : Addr) (xs : List V), x = .ref l ∧ SqL K H1 l xs ∧ xs ≠ [] ∧ (∀ y ∈ xs, ∃ p ys, y = V.ref p ∧ SqL K H1 p ys) ∧ ∀ y ∈ xs, Q y H1
theorem min_len {pins : List (Addr × Obj)} {s : Shared} {σ : L2.St} {H : Hp} {Q : VK} {l : Addr} {xs : List V} (hc : X.calm = true) (I : Inv X pins σ H s) (hs : SqL X.K H l xs) (hne : xs ≠ []) (hall : ∀ y ∈ xs, ∃ p ys, y = V.ref p ∧ SqL X.K H p ys) (hq : ∀ y ∈ xs, Q y H) :
    wpAny (model X.prog X.w) X.A (call (.builtin "min") [.ref l] [(Str.ofString "key", .builtin "len")]) (EP X pins σ Q) X.xe s := by
  obtain ⟨its, rv, hL, hz⟩ := I.list hs
  have hl := rv.length
  have hpos : 0 < its.length := by rw [← hl]; exact List.length_pos_iff.mpr hne
  have hh := I.ok.hd hc
  have item : ∀ (i : Nat) (v : Value), its[i]? = some v → ∃ y, y ∈ xs ∧ RelV y v ∧ ∃ (p : Addr) (ys : Array Value), v = .ref p ∧ s.heap.IsList p ys ∧ ys.size ≤ sizeLine := by
    intro i v hv
    have hi := (List.getElem?_eq_some_iff.mp hv).1
    obtain ⟨v', hv', r⟩ := rv.get (List.getElem?_eq_getElem (show i < xs.length by omega))
    rw [hv] at hv'
    cases hv'
    have hm := List.getElem_mem (show i < xs.length by omega)
    obtain ⟨p, ys, e, hp⟩ := hall _ hm
    obtain ⟨its2, rv2, hL2, hz2⟩ := I.list hp
    rw [e] at r
    exact ⟨xs[i], hm, by rw [e]; exact r, p, its2.toArray, r, hL2.isList, by rw [List.size_toArray, ← rv2.length]; exact hz2⟩
  have lenOf : ∀ i : Nat, ∃ n : Int, ∀ v : Value, its[i]? = some v → ∃ (p : Addr) (ys : Array Value), v = .ref p ∧ s.heap.IsList p ys ∧ ys.size ≤ sizeLine ∧ n = (ys.size : Int) := by
    intro i
    cases e : its[i]? with
    | none => exact ⟨0, fun v h => by cases h⟩
    | some v =>
      obtain ⟨_, _, _, p, ys, h1, h2, h3⟩ := item i v e
      exact ⟨_, fun v' h' => by cases h'; exact ⟨p, ys, h1, h2, h3, rfl⟩⟩
  obtain ⟨nf, hnf⟩ : ∃ nf : Nat → Int, ∀ (i : Nat) (v : Value), its[i]? = some v → ∃ (p : Addr) (ys : Array Value), v = .ref p ∧ s.heap.IsList p ys ∧ ys.size ≤ sizeLine ∧ nf i = (ys.size : Int) := ⟨fun i => (lenOf i).choose, fun i => (lenOf i).choose_spec⟩
  have hlt : l < s.heap.objs.size := by
    obtain ⟨o, ho, _⟩ := hL.isList
    exact Heap.lt_size ho
  have hll : l ≠ s.heap.objs.size := Nat.ne_of_lt hlt
  refine PySem.call_min_walkKB (wpAny_pyIter_list hL.isList ?_)
  have sz : (s.heap.push { cls := .type "list_iterator", data := .fields #[.ref l, .int 0 0] }).objs.size = s.heap.objs.size + 1 := Heap.size_push ..
  refine ⟨s.heap.objs.size, _, _, _, its.toArray.size, _, _, fun s' => (∀ b o, s.heap.get? b = some o → s'.heap.get? b = some o) ∧ s'.gens = s.gens ∧ s'.drawn = s.drawn ∧ s'.os = s.os, fun i k _ => ∃ t, k = .int (nf i) t, fun i j => decide (nf i < nf j), rfl,
    (Walks.list (prog := X.prog) (w := X.w) (A := X.A.in1) hh s.heap.objs.size l hll its.toArray).toS, ⟨⟨_, Heap.get?_push_size _ rfl, rfl, rfl⟩, hL.isList.push _⟩, ?_, by simpa using hpos, ?_, ⟨fun b o e => Heap.get?_push_of_some _ e, rfl, rfl, rfl⟩, ?_⟩
  · intro b hb
    show b < (s.heap.push _).objs.size
    rw [sz]
    have : b = s.heap.objs.size ∨ b = l := by simpa using hb
    rcases this with z | z
    · rw [z]; exact Nat.lt_succ_self _
    · rw [z]; exact Nat.lt_succ_of_lt hlt
  · show PySem.KeyRun _ _ _ _ _ (s.heap.push _).objs.size _ _ _ _ _ _ _ _
    rw [sz]
    refine ⟨?_, fun i k s1 s2 h _ => h, ?_, ?_⟩
    · intro s1 s2 h m
      refine ⟨fun b o e => m.heap b o ?_ (h.1 b o e), (show s2.gens = s1.gens from m.gens).trans h.2.1, m.drawn.trans h.2.2.1, m.os.trans h.2.2.2⟩
      have : b < s.heap.objs.size := Heap.lt_size e
      simp only [List.mem_cons, List.not_mem_nil, or_false, not_or]
      exact ⟨Nat.ne_of_lt (Nat.lt_succ_of_lt this), Nat.ne_of_lt this⟩
    · intro i v s1 o Q1 E1 hi hP hJ hst hS k
      obtain ⟨p, ys, rfl, hp, hy, hn⟩ := hnf i v (by simpa using hP)
      have hp1 : s1.heap.IsList p ys := hp.at fun o e => hJ.1 p o e
      have := sizeLine_eq
      refine PySem.Calls.call_len_list hp1 (by omega) (k _ { s1 with toks := s1.toks + 1 + 1 } hJ hst hS ⟨_, by rw [hn]⟩ fun j k' h => h)
    · intro i j ki kj s1 Q1 E1 _ hi hj hq1
      obtain ⟨t, rfl⟩ := hi
      obtain ⟨u, rfl⟩ := hj
      exact CmpOf.ints_lt (prog := X.prog) (w := X.w) (A := X.A.in1) (P := fun i v => ∃ t, v = .int (nf i) t) nf (fun i v h => h) i j _ _ s1 Q1 E1 ⟨t, rfl⟩ ⟨u, rfl⟩ hq1
  · intro v s' hP hJ
    obtain ⟨y, hy, ry, _⟩ := item _ v (by simpa using hP)
    obtain ⟨h', g', d', t', o'⟩ := s'
    obtain ⟨hk, eg, ed, eo⟩ := hJ
    simp only at hk eg ed eo
    subst eg; subst ed; subst eo
    exact ⟨y, H, I.kept (t' := t') hk, ry, hq y hy⟩
theorem pe_minLen {a : Expr} {ta : TE} {p p2 kpos pos : Pos} (hg : Gl X "min") (hm : X.mg "min" = none) (hg2 : Gl X "len") (hm2 : X.mg "len" = none) (ha : PE X a ta) (hc : X.calm = true := by rfl)
    (hst : starEach [a] X.env = (false, eval a X.env) :: starEach [] X.env := by rfl) (he : backTo pos (starEach [a] X.env) = (false, eval a X.env) :: backTo pos (starEach [] X.env) := by rfl) (hpl : (backTo pos (starEach [a] X.env)).any (·.1) = false := by rfl) : PE X (.Call (.Name "min" p) [a] [⟨some "key", .Name "len" p2, kpos⟩] pos) (tMinLen X.K ta) := by
  refine ⟨fun pins s σ H Q I h => ?_⟩
  refine wpAny_Call_Name_kw (ld_blt I hg hm PyProof.Rows.boot_min ?_)
  refine PyProof.Rows.callWith_kw (thn ((pa_cons ha pa_nil hst).run pos pins s σ H (fun vs H1 => match vs with
    | [x] => ∃ (l : Addr) (xs : List V), x = .ref l ∧ SqL X.K H1 l xs ∧ xs ≠ [] ∧ (∀ y ∈ xs, ∃ p ys, y = V.ref p ∧ SqL X.K H1 p ys) ∧ ∀ y ∈ xs, Q y H1
    | _ => False) I h) fun us s1 ⟨vs, H1, I1, r1, q1⟩ => ?_) he hpl
  obtain ⟨x, rfl⟩ : ∃ x, vs = [x] := by
    match vs, q1 with
    | [x], _ => exact ⟨x, rfl⟩
  obtain ⟨l, xs, rfl, hs, hne, hall, hq⟩ := q1
  obtain ⟨u, rfl, ru⟩ := vals1 r1
  obtain rfl : u = Value.ref l := ru
  refine wpAny_evalAll_cons (wpAny_bind (ld_blt I1 hg2 hm2 PySem.boot_len ?_))
  refine wpAny_bind (wpAny_standAt (wpAny_pure (wpAny_evalAll_nil ?_)))
  exact min_len hc I1 hs hne hall hq
end
end K60

set_option Elab.async false
set_option linter.all false
set_option maxRecDepth 100000
set_option maxHeartbeats 4000000
/-! K60G (printed by gen.py): the defs by places, their names by slots, what the walk asks of the head. -/
namespace K60
open PySem L2 PySem.Spec
abbrev s_is_from : Stmt := top 17
abbrev s_is_box : Stmt := top 18
abbrev s_is_step : Stmt := top 19
abbrev s_in_order : Stmt := top 20
abbrev s_is_dealing : Stmt := top 21
abbrev s_are_dealings : Stmt := top 22
abbrev s_are_levels : Stmt := top 23
abbrev s_is_level : Stmt := top 24
abbrev s_sure_dealings : Stmt := top 25
abbrev s_sure_levels : Stmt := top 26
abbrev s_is_number : Stmt := top 27
abbrev s_boxes_of : Stmt := top 29
abbrev s_meeting : Stmt := top 30
abbrev s_is_cut : Stmt := top 33
abbrev s_kept_apart : Stmt := top 34
abbrev s_writes_any : Stmt := top 35
abbrev s_reads_any : Stmt := top 36
abbrev s_closes : Stmt := top 37
abbrev s_is_barred : Stmt := top 38
abbrev s_cut_fault : Stmt := top 39
abbrev s_cut_weaving : Stmt := top 40
abbrev s_gone_through : Stmt := top 44
abbrev s_ties_of_box : Stmt := top 47
abbrev s_ties_of : Stmt := top 48
abbrev s_tie_by_pair : Stmt := top 49
abbrev s_ring_by : Stmt := top 50
abbrev s_shortest_ring : Stmt := top 51
abbrev s_turns_of : Stmt := top 54
abbrev s_weaving_fault : Stmt := top 55
abbrev s_look_at : Stmt := top 59
abbrev s_barred : Stmt := top 60
abbrev s_law_cell_at : Stmt := top 63
abbrev s_law_digit : Stmt := top 64
abbrev s_law_turned : Stmt := top 65
abbrev s_law_other : Stmt := top 66
abbrev s_law_due : Stmt := top 67
abbrev s_law_levels : Stmt := top 68
abbrev s_law_right : Stmt := top 69
abbrev s_law : Stmt := top 70
abbrev sCut_init : Stmt := inClass (top 32) 0
abbrev sEngine_init : Stmt := inClass (top 43) 0
abbrev sEngine_enter : Stmt := inClass (top 43) 1
abbrev sEngine_start_of : Stmt := inClass (top 43) 2
abbrev sEngine_stop_of : Stmt := inClass (top 43) 3
abbrev sEngine_newest : Stmt := inClass (top 43) 4
abbrev sEngine_bar_of_write : Stmt := inClass (top 43) 5
abbrev sEngine_rank : Stmt := inClass (top 43) 6
abbrev sEngine_goes_past : Stmt := inClass (top 43) 7
abbrev sEngine_overlap : Stmt := inClass (top 43) 8
abbrev sEngine_is_middle : Stmt := inClass (top 43) 9
abbrev sEngine_bar_of_end : Stmt := inClass (top 43) 10
abbrev sEngine_bar_of : Stmt := inClass (top 43) 11
abbrev sEngine_do : Stmt := inClass (top 43) 12
abbrev sRun_init : Stmt := inClass (top 61) 0
abbrev sRun_ties : Stmt := inClass (top 61) 5
abbrev sRun_ring : Stmt := inClass (top 61) 6
theorem sc_is_from : FnScope ["thing", "low", "high"] ["thing", "low", "high"] (defScope s_is_from) := ⟨rfl, rfl, rfl, by decide +kernel, rfl, by decide +kernel, by decide +kernel⟩
theorem sc_is_box : FnScope ["thing"] ["thing"] (defScope s_is_box) := ⟨rfl, rfl, rfl, by decide +kernel, rfl, by decide +kernel, by decide +kernel⟩
theorem sc_is_step : FnScope ["thing"] ["thing"] (defScope s_is_step) := ⟨rfl, rfl, rfl, by decide +kernel, rfl, by decide +kernel, by decide +kernel⟩
theorem sc_in_order : FnScope ["steps", "at", "step"] ["steps"] (defScope s_in_order) := ⟨rfl, rfl, rfl, by decide +kernel, rfl, by decide +kernel, by decide +kernel⟩
theorem sc_is_dealing : FnScope ["thing", "step"] ["thing"] (defScope s_is_dealing) := ⟨rfl, rfl, rfl, by decide +kernel, rfl, by decide +kernel, by decide +kernel⟩
theorem sc_are_dealings : FnScope ["thing", "dealing"] ["thing"] (defScope s_are_dealings) := ⟨rfl, rfl, rfl, by decide +kernel, rfl, by decide +kernel, by decide +kernel⟩
theorem sc_are_levels : FnScope ["thing", "many", "level"] ["thing", "many"] (defScope s_are_levels) := ⟨rfl, rfl, rfl, by decide +kernel, rfl, by decide +kernel, by decide +kernel⟩
theorem sc_is_level : FnScope ["thing"] ["thing"] (defScope s_is_level) := ⟨rfl, rfl, rfl, by decide +kernel, rfl, by decide +kernel, by decide +kernel⟩
theorem sc_sure_dealings : FnScope ["thing"] ["thing"] (defScope s_sure_dealings) := ⟨rfl, rfl, rfl, by decide +kernel, rfl, by decide +kernel, by decide +kernel⟩
theorem sc_sure_levels : FnScope ["dealings", "levels"] ["dealings", "levels"] (defScope s_sure_levels) := ⟨rfl, rfl, rfl, by decide +kernel, rfl, by decide +kernel, by decide +kernel⟩
theorem sc_is_number : FnScope ["dealings", "thing"] ["dealings", "thing"] (defScope s_is_number) := ⟨rfl, rfl, rfl, by decide +kernel, rfl, by decide +kernel, by decide +kernel⟩
theorem sc_boxes_of : FnScope ["steps", "word", "told", "box"] ["steps", "word"] (defScope s_boxes_of) := ⟨rfl, rfl, rfl, by decide +kernel, rfl, by decide +kernel, by decide +kernel⟩
theorem sc_meeting : FnScope ["one", "other", "found", "word", "box"] ["one", "other"] (defScope s_meeting) := ⟨rfl, rfl, rfl, by decide +kernel, rfl, by decide +kernel, by decide +kernel⟩
theorem sc_is_cut : FnScope ["dealings", "thing", "place", "number"] ["dealings", "thing"] (defScope s_is_cut) := ⟨rfl, rfl, rfl, by decide +kernel, rfl, by decide +kernel, by decide +kernel⟩
theorem sc_kept_apart : FnScope ["one", "at", "level"] ["one", "at", "level"] (defScope s_kept_apart) := ⟨rfl, rfl, rfl, by decide +kernel, rfl, by decide +kernel, by decide +kernel⟩
theorem sc_writes_any : FnScope ["dealing", "boxes", "box"] ["dealing", "boxes"] (defScope s_writes_any) := ⟨rfl, rfl, rfl, by decide +kernel, rfl, by decide +kernel, by decide +kernel⟩
theorem sc_reads_any : FnScope ["dealing", "boxes", "box"] ["dealing", "boxes"] (defScope s_reads_any) := ⟨rfl, rfl, rfl, by decide +kernel, rfl, by decide +kernel, by decide +kernel⟩
theorem sc_closes : FnScope ["one", "at", "level", "other"] ["one", "at", "level", "other"] (defScope s_closes) := ⟨rfl, rfl, rfl, by decide +kernel, rfl, by decide +kernel, by decide +kernel⟩
theorem sc_is_barred : FnScope ["one", "level", "row", "ahead", "dealing", "beside"] ["one", "level", "row"] (defScope s_is_barred) := ⟨rfl, rfl, rfl, by decide +kernel, rfl, by decide +kernel, by decide +kernel⟩
theorem sc_cut_fault : FnScope ["dealings", "levels", "cut", "one", "level", "word", "box", "row", "number", "dealing", "ahead"] ["dealings", "levels", "cut"] (defScope s_cut_fault) := ⟨rfl, rfl, rfl, by decide +kernel, rfl, by decide +kernel, by decide +kernel⟩
theorem sc_cut_weaving : FnScope ["dealings", "cut", "weaving", "number", "dealing"] ["dealings", "cut"] (defScope s_cut_weaving) := ⟨rfl, rfl, rfl, by decide +kernel, rfl, by decide +kernel, by decide +kernel⟩
theorem sc_gone_through : FnScope ["dealings", "levels", "weaving", "engine", "number", "level", "done", "place", "at", "step", "bar", "why", "by", "dealing"] ["dealings", "levels", "weaving"] (defScope s_gone_through) := ⟨rfl, rfl, rfl, by decide +kernel, rfl, by decide +kernel, by decide +kernel⟩
theorem sc_ties_of_box : FnScope ["box", "rows", "sights", "found", "ranks", "k", "one", "reader", "whose", "writer", "number", "other"] ["box", "rows", "sights"] (defScope s_ties_of_box) := ⟨rfl, rfl, rfl, by decide +kernel, rfl, by decide +kernel, by decide +kernel⟩
theorem sc_ties_of : FnScope ["engine", "sights", "number", "box", "whose", "found"] ["engine"] (defScope s_ties_of) := ⟨rfl, rfl, rfl, by decide +kernel, rfl, by decide +kernel, by decide +kernel⟩
theorem sc_tie_by_pair : FnScope ["ties", "found", "tie"] ["ties"] (defScope s_tie_by_pair) := ⟨rfl, rfl, rfl, by decide +kernel, rfl, by decide +kernel, by decide +kernel⟩
theorem sc_ring_by : FnScope ["ties", "start", "ways", "came", "floor", "beyond", "one", "other", "tie", "found"] ["ties", "start"] (defScope s_ring_by) := ⟨rfl, rfl, rfl, by decide +kernel, rfl, by decide +kernel, by decide +kernel⟩
theorem sc_shortest_ring : FnScope ["ties", "many", "rings", "ring", "number"] ["ties", "many"] (defScope s_shortest_ring) := ⟨rfl, rfl, rfl, by decide +kernel, rfl, by decide +kernel, by decide +kernel⟩
theorem sc_turns_of : FnScope ["dealings", "dealing"] ["dealings"] (defScope s_turns_of) := ⟨rfl, rfl, rfl, by decide +kernel, rfl, by decide +kernel, by decide +kernel⟩
theorem sc_weaving_fault : FnScope ["dealings", "thing", "left", "place", "number"] ["dealings", "thing"] (defScope s_weaving_fault) := ⟨rfl, rfl, rfl, by decide +kernel, rfl, by decide +kernel, by decide +kernel⟩
theorem sc_look_at : FnScope ["dealings", "levels", "weaving", "place"] ["dealings", "levels", "weaving"] (defScope s_look_at) := ⟨rfl, rfl, rfl, by decide +kernel, rfl, by decide +kernel, by decide +kernel⟩
theorem sc_barred : FnScope ["dealings", "levels", "weaving"] ["dealings", "levels", "weaving"] (defScope s_barred) := ⟨rfl, rfl, rfl, by decide +kernel, rfl, by decide +kernel, by decide +kernel⟩
theorem sc_law_cell_at : FnScope ["_law_script", "_law_k"] ["_law_script", "_law_k"] (defScope s_law_cell_at) := ⟨rfl, rfl, rfl, by decide +kernel, rfl, by decide +kernel, by decide +kernel⟩
theorem sc_law_digit : FnScope ["_law_state", "_law_base", "_law_cell", "_law_found", "_law_number"] ["_law_state", "_law_base"] (defScope s_law_digit) := ⟨rfl, rfl, rfl, by decide +kernel, rfl, by decide +kernel, by decide +kernel⟩
theorem sc_law_turned : FnScope ["_law_state", "_law_steps", "_law_left", "_law_found"] ["_law_state", "_law_steps"] (defScope s_law_turned) := ⟨rfl, rfl, rfl, by decide +kernel, rfl, by decide +kernel, by decide +kernel⟩
theorem sc_law_other : FnScope ["_law_state", "_law_k", "_law_many", "_law_steps"] ["_law_state", "_law_k", "_law_many"] (defScope s_law_other) := ⟨rfl, rfl, rfl, by decide +kernel, rfl, by decide +kernel, by decide +kernel⟩
theorem sc_law_due : FnScope ["_law_mine", "_law_row", "_law_levels_here", "_law_ahead", "_law_dealing", "_law_level"] ["_law_mine", "_law_row", "_law_levels_here"] (defScope s_law_due) := ⟨rfl, rfl, rfl, by decide +kernel, rfl, by decide +kernel, by decide +kernel⟩
theorem sc_law_levels : FnScope ["_law_state", "_law_many", "_law_k"] ["_law_state", "_law_many"] (defScope s_law_levels) := ⟨rfl, rfl, rfl, by decide +kernel, rfl, by decide +kernel, by decide +kernel⟩
theorem sc_law_right : FnScope ["_law_dealings", "_law_levels_here", "_law_cut", "_law_due_here", "_law_weaving", "_law_found"] ["_law_dealings", "_law_levels_here", "_law_cut", "_law_due_here"] (defScope s_law_right) := ⟨rfl, rfl, rfl, by decide +kernel, rfl, by decide +kernel, by decide +kernel⟩
theorem sc_law : FnScope ["_law_script", "_law_k", "_law_state", "_law_many", "_law_mine", "_law_row", "_law_levels_here", "_law_due_here", "_law_turn", "_law_numbers", "_law_dealings", "_law_grades", "_law_cut", "_law_j"] ["_law_script"] (defScope s_law) := ⟨rfl, rfl, rfl, by decide +kernel, rfl, by decide +kernel, by decide +kernel⟩
theorem sc_Cut_init : FnScope ["self", "one", "at", "row"] ["self", "one", "at", "row"] (defScope sCut_init) := ⟨rfl, rfl, rfl, by decide +kernel, rfl, by decide +kernel, by decide +kernel⟩
theorem sc_Engine_init : FnScope ["self"] ["self"] (defScope sEngine_init) := ⟨rfl, rfl, rfl, by decide +kernel, rfl, by decide +kernel, by decide +kernel⟩
theorem sc_Engine_enter : FnScope ["self", "number", "level"] ["self", "number", "level"] (defScope sEngine_enter) := ⟨rfl, rfl, rfl, by decide +kernel, rfl, by decide +kernel, by decide +kernel⟩
theorem sc_Engine_start_of : FnScope ["self", "number"] ["self", "number"] (defScope sEngine_start_of) := ⟨rfl, rfl, rfl, by decide +kernel, rfl, by decide +kernel, by decide +kernel⟩
theorem sc_Engine_stop_of : FnScope ["self", "number"] ["self", "number"] (defScope sEngine_stop_of) := ⟨rfl, rfl, rfl, by decide +kernel, rfl, by decide +kernel, by decide +kernel⟩
theorem sc_Engine_newest : FnScope ["self", "number", "box", "found", "whose"] ["self", "number", "box"] (defScope sEngine_newest) := ⟨rfl, rfl, rfl, by decide +kernel, rfl, by decide +kernel, by decide +kernel⟩
theorem sc_Engine_bar_of_write : FnScope ["self", "number", "box", "holder", "rows"] ["self", "number", "box"] (defScope sEngine_bar_of_write) := ⟨rfl, rfl, rfl, by decide +kernel, rfl, by decide +kernel, by decide +kernel⟩
theorem sc_Engine_rank : FnScope ["self", "box", "whose", "rows"] ["self", "box", "whose"] (defScope sEngine_rank) := ⟨rfl, rfl, rfl, by decide +kernel, rfl, by decide +kernel, by decide +kernel⟩
theorem sc_Engine_goes_past : FnScope ["self", "one", "other", "box"] ["self", "one", "other"] (defScope sEngine_goes_past) := ⟨rfl, rfl, rfl, by decide +kernel, rfl, by decide +kernel, by decide +kernel⟩
theorem sc_Engine_overlap : FnScope ["self", "one", "other"] ["self", "one", "other"] (defScope sEngine_overlap) := ⟨rfl, rfl, rfl, by decide +kernel, rfl, by decide +kernel, by decide +kernel⟩
theorem sc_Engine_is_middle : FnScope ["self", "y", "wholes", "last", "others", "ahead", "behind", "pairs", "one", "x", "z"] ["self", "y", "wholes", "last"] (defScope sEngine_is_middle) := ⟨rfl, rfl, rfl, by decide +kernel, rfl, by decide +kernel, by decide +kernel⟩
theorem sc_Engine_bar_of_end : FnScope ["self", "number", "wholes", "y", "one"] ["self", "number"] (defScope sEngine_bar_of_end) := ⟨rfl, rfl, rfl, by decide +kernel, rfl, by decide +kernel, by decide +kernel⟩
theorem sc_Engine_bar_of : FnScope ["self", "number", "step", "word", "box"] ["self", "number", "step"] (defScope sEngine_bar_of) := ⟨rfl, rfl, rfl, by decide +kernel, rfl, by decide +kernel, by decide +kernel⟩
theorem sc_Engine_do : FnScope ["self", "number", "step", "whose", "box"] ["self", "number", "step"] (defScope sEngine_do) := ⟨rfl, rfl, rfl, by decide +kernel, rfl, by decide +kernel, by decide +kernel⟩
theorem sc_Run_init : FnScope ["self", "dealings", "levels", "weaving", "engine", "bar", "place", "why", "by"] ["self", "dealings", "levels", "weaving"] (defScope sRun_init) := ⟨rfl, rfl, rfl, by decide +kernel, rfl, by decide +kernel, by decide +kernel⟩
theorem sc_Run_ties : FnScope ["self", "kind", "tie"] ["self", "kind"] (defScope sRun_ties) := ⟨rfl, rfl, rfl, by decide +kernel, rfl, by decide +kernel, by decide +kernel⟩
theorem sc_Run_ring : FnScope ["self", "through", "many"] ["self", "through"] (defScope sRun_ring) := ⟨rfl, rfl, rfl, by decide +kernel, rfl, by decide +kernel, by decide +kernel⟩
structure Facts (K : PySem.W.Frag) (mg : Str → Option Value) (cC cE cR : Addr) : Prop where
  clCut : Cls K cC
  mgCut : mg "Cut" = some (.ref cC)
  nCut_one : NoAttr K cC "one"
  nCut_at : NoAttr K cC "at"
  nCut_row : NoAttr K cC "row"
  clEngine : Cls K cE
  mgEngine : mg "Engine" = some (.ref cE)
  nEngine_moment : NoAttr K cE "moment"
  nEngine_grades : NoAttr K cE "grades"
  nEngine_starts : NoAttr K cE "starts"
  nEngine_stops : NoAttr K cE "stops"
  nEngine_chains : NoAttr K cE "chains"
  nEngine_holders : NoAttr K cE "holders"
  nEngine_sights : NoAttr K cE "sights"
  nEngine_puts : NoAttr K cE "puts"
  nEngine_looks : NoAttr K cE "looks"
  clRun : Cls K cR
  mgRun : mg "Run" = some (.ref cR)
  nRun_dealings : NoAttr K cR "dealings"
  nRun_levels : NoAttr K cR "levels"
  nRun_weaving : NoAttr K cR "weaving"
  nRun_engine : NoAttr K cR "engine"
  insA : PySem.W.findIn K (.ref cC) "__class__" = some (some (.builtin "object.__class__"))
  insB : PySem.W.specialIn K (.builtin "object.__class__") "__get__" = some (some (.builtin "getset_descriptor.__get__"))
  insC : PySem.W.takesIn K (.builtin "object.__class__") = some true
  insD : PySem.W.mroIn K cC (.type "object") = some true
  insE : PySem.W.kitOne K (.ref cC) (.ref cC) = some true
  z_isinstance : mg "isinstance" = none
  z_int : mg "int" = none
  z_bool : mg "bool" = none
  z_tuple : mg "tuple" = none
  z_list : mg "list" = none
  z_str : mg "str" = none
  z_len : mg "len" = none
  z_all : mg "all" = none
  z_any : mg "any" = none
  z_enumerate : mg "enumerate" = none
  z_sorted : mg "sorted" = none
  z_set : mg "set" = none
  z_zip : mg "zip" = none
  z_range : mg "range" = none
  z_sum : mg "sum" = none
  z_max : mg "max" = none
  z_min : mg "min" = none
  k_MOST_BOX : ∃ u, mg "MOST_BOX" = some u ∧ RelV (.int 100000000) u
  k_MOST_STEPS : ∃ u, mg "MOST_STEPS" = some u ∧ RelV (.int 8) u
  k_MOST_DEALINGS : ∃ u, mg "MOST_DEALINGS" = some u ∧ RelV (.int 100) u
  k_NOBODY : ∃ u, mg "NOBODY" = some u ∧ RelV (.int (-1)) u
  k_WORDS : ∃ a, mg "WORDS" = some (.ref a) ∧ ∀ H, SqT K H a [.str "read", .str "write"]
  k_LEVELS : ∃ a, mg "LEVELS" = some (.ref a) ∧ ∀ H, SqT K H a [.str "lax", .str "still", .str "whole"]
end K60

set_option Elab.async false
set_option linter.all false
set_option maxRecDepth 100000
set_option maxHeartbeats 4000000
namespace K60
open PySem L2 PySem.Spec
/-! ### types of what is read -/
theorem SqT_ty {K : PySem.W.Frag} {H : Hp} {a : Addr} {xs : List V} (h : SqT K H a xs) : TyX K H (.ref a) (.type "tuple") := by
  rcases h with (h | ⟨o, h⟩) | ⟨o, its, n, h, hc, _⟩
  · exact .base (.tup h)
  · exact .fTuple h
  · exact .kTuple h hc
theorem SqL_ty {K : PySem.W.Frag} {H : Hp} {a : Addr} {xs : List V} (h : SqL K H a xs) : TyX K H (.ref a) (.type "list") := by
  rcases h with (h | ⟨o, h⟩) | ⟨o, its, n, h, hc, _⟩
  · exact .base (.lst h)
  · exact .base (.frz h)
  · exact .kList h hc
section
variable {P : Program} {w : World} {K : PySem.W.Frag} {mg : Str → Option Value} {base : Heap} {cC cE cR : Addr}
def MostBox : Int := 100000000
def BoxOk (b : Int) : Prop := 0 ≤ b ∧ b ≤ 100000000

def spFrom : Sp := fun vs H Q _ => ∃ i lo hi : Int, vs = [.int i, .int lo, .int hi] ∧ lo ≤ i ∧ i ≤ hi ∧ Q (.bl true) H
theorem ok_is_from {f : Addr} {fd : FuncData} (F : Fun K "is_from" "is_from" s_is_from f fd) (T : Facts K mg cC cE cR) : FnOk P w K mg base CX0 1 f fd ["thing", "low", "high"] spFrom := by
  refine F.ok sc_is_from (fun vs H Q E h => ?_) (fun cdv A outer s H vs Q E hr h => ?_)
  · obtain ⟨i, lo, hi, rfl, _⟩ := h; rfl
  · obtain ⟨i, lo, hi, rfl, h1, h2, k⟩ := h
    refine ⟨_, pss_one (ps_ret (pe_and (pe_callB call_isi (by rfl) T.z_isinstance (by decide +kernel) (pa_cons (pv 0) (pa_cons (pe_bltn (v := .ty "int") (by rfl) T.z_int (by decide +kernel) rfl) pa_nil)))
      (pe_and (pe_not (pe_callB call_isi (by rfl) T.z_isinstance (by decide +kernel) (pa_cons (pv 0) (pa_cons (pe_bltn (v := .ty "bool") (by rfl) T.z_bool (by decide +kernel) rfl) pa_nil))))
      (pe_one (pe_chain op_le op_le (pv 1) (pv 0) (pv 2)))))), ?_⟩
    refine ⟨_, rfl, _, _, _, _, true, rfl, .ty "int", .base (.int i), kit_ty (by decide +kernel), true, rfl, iteT ?_⟩
    refine ⟨_, rfl, _, _, _, _, false, rfl, .ty "bool", .base (.int i), kit_ty (by decide +kernel), false, rfl, true, rfl, iteT ?_⟩
    refine ⟨_, rfl, _, rfl, _, _, rfl, rfl, true, congrArg V.bl (decide_eq_true h1), iteT ?_⟩
    refine ⟨_, rfl, _, _, rfl, rfl, ?_⟩
    show Q (V.bl (decide (i ≤ hi))) H
    rw [decide_eq_true h2]
    exact k

def spBox : Sp := fun vs H Q _ => ∃ b : Int, vs = [.int b] ∧ BoxOk b ∧ Q (.bl true) H
theorem ok_is_box {f : Addr} {fd : FuncData} (F : Fun K "is_box" "is_box" s_is_box f fd) (T : Facts K mg cC cE cR) (c1 : C8.Cal P w K mg base 1 "is_from" spFrom []) : FnOk P w K mg base CX0 2 f fd ["thing"] spBox := by
  refine F.ok sc_is_box (fun vs H Q E h => ?_) (fun cdv A outer s H vs Q E hr h => ?_)
  · obtain ⟨b, rfl, _⟩ := h; rfl
  · obtain ⟨b, rfl, h1, k⟩ := h
    refine ⟨_, pss_one (ps_ret (C8.pe_c c1 hr (by decide) rfl (pa_cons (pv 0) (pa_cons pe_int (pa_cons (C8.pe_gc rfl T.k_MOST_BOX) pa_nil))))), ?_⟩
    exact ⟨_, rfl, _, _, _, rfl, h1.1, h1.2, k⟩

def spStep (K : PySem.W.Frag) : Sp := fun vs H Q _ => ∃ (v : V) (x : Stp), vs = [v] ∧ StepAt K H v x ∧ BoxOk x.2 ∧ Q (.bl true) H
theorem wd_in (b : Bool) : inV (.str (wd b)) [.str "read", .str "write"] = true := by cases b <;> decide +kernel
theorem ok_is_step {f : Addr} {fd : FuncData} (F : Fun K "is_step" "is_step" s_is_step f fd) (T : Facts K mg cC cE cR) (c1 : C8.Cal P w K mg base 2 "is_box" spBox []) : FnOk P w K mg base CX0 3 f fd ["thing"] (spStep K) := by
  refine F.ok sc_is_step (fun vs H Q E h => ?_) (fun cdv A outer s H vs Q E hr h => ?_)
  · obtain ⟨v, x, rfl, _⟩ := h; rfl
  · obtain ⟨v, x, rfl, ⟨t, rfl, hT⟩, hb, k⟩ := h
    obtain ⟨aW, mW, hW⟩ := T.k_WORDS
    refine ⟨_, pss_cons (ps_if (PW.pt (pw_or (pt_not (pt_val (pe_callB call_isi (by rfl) T.z_isinstance (by decide +kernel) (pa_cons (pv 0) (pa_cons (pe_bltn (v := .ty "tuple") (by rfl) T.z_tuple (by decide +kernel) rfl) pa_nil)))))
        (pw_or1 (pt_cmpR op_ne (pe_callB call_len_seq (by rfl) T.z_len PySem.boot_len (pa_cons (pv 0) pa_nil)) pe_int (nomark _))))) (pss_one (ps_ret pe_bl)) pss_nil)
      (pss_one (ps_ret (pe_and (pe_callB call_isi (by rfl) T.z_isinstance (by decide +kernel) (pa_cons (pe_ix ix_tup (pv 0) pe_int (fun _ _ => rfl)) (pa_cons (pe_bltn (v := .ty "str") (by rfl) T.z_str (by decide +kernel) rfl) pa_nil)))
        (pe_and (pe_cmpR op_in_seq (pe_ix ix_tup (pv 0) pe_int (fun _ _ => rfl)) (pe_glob (v := .ref aW) rfl mW rfl) (by rfl))
        (pe_one (C8.pe_c c1 hr (by decide) rfl (pa_cons (pe_ix ix_tup (pv 0) pe_int (fun _ _ => rfl)) pa_nil))))))), ?_⟩
    refine ⟨_, rfl, _, _, _, _, true, rfl, .ty "tuple", SqT_ty hT, kit_ty (by decide +kernel), true, rfl, ?_⟩
    refine iteF ⟨_, rfl, t, _, rfl, .inr hT, rfl, false, rfl, iteF ?_⟩
    refine ⟨_, rfl, t, _, _, _, rfl, rfl, hT, atI_nat (j := 0) rfl, _, _, _, _, true, rfl, .ty "str", .base (.str _), kit_ty (by decide +kernel), true, rfl, iteT ?_⟩
    refine ⟨_, rfl, t, _, _, _, rfl, rfl, hT, atI_nat (j := 0) rfl, aW, _, rfl, .inr (hW _), rfl, rfl, true, congrArg V.bl (wd_in _), iteT ?_⟩
    exact ⟨_, rfl, t, _, _, _, rfl, rfl, hT, atI_nat (j := 1) rfl, _, rfl, hb, k⟩

def spLevel : Sp := fun vs H Q _ => ∃ l : Lv, vs = [.str (lvS l)] ∧ Q (.bl true) H
theorem lv_in (l : Lv) : inV (.str (lvS l)) [.str "lax", .str "still", .str "whole"] = true := by cases l <;> decide +kernel
theorem ok_is_level {f : Addr} {fd : FuncData} (F : Fun K "is_level" "is_level" s_is_level f fd) (T : Facts K mg cC cE cR) : FnOk P w K mg base CX0 1 f fd ["thing"] spLevel := by
  refine F.ok sc_is_level (fun vs H Q E h => ?_) (fun cdv A outer s H vs Q E hr h => ?_)
  · obtain ⟨l, rfl, _⟩ := h; rfl
  · obtain ⟨l, rfl, k⟩ := h
    obtain ⟨aW, mW, hW⟩ := T.k_LEVELS
    refine ⟨_, pss_one (ps_ret (pe_and (pe_callB call_isi (by rfl) T.z_isinstance (by decide +kernel) (pa_cons (pv 0) (pa_cons (pe_bltn (v := .ty "str") (by rfl) T.z_str (by decide +kernel) rfl) pa_nil)))
        (pe_one (pe_cmpR op_in_seq (pv 0) (pe_glob (v := .ref aW) rfl mW rfl) (by rfl))))), ?_⟩
    refine ⟨_, rfl, _, _, _, _, true, rfl, .ty "str", .base (.str _), kit_ty (by decide +kernel), true, rfl, iteT ?_⟩
    refine ⟨_, rfl, aW, _, rfl, .inr (hW _), rfl, rfl, ?_⟩
    show Q (V.bl (inV _ _)) H
    rw [lv_in]
    exact k

/-- is_number (of dealings): a place of a list -/
def spNumber (K : PySem.W.Frag) : Sp := fun vs H Q _ => ∃ (v : V) (ds : List Deal) (i : Int), vs = [v, .int i] ∧ DealsAt K H v ds ∧ 0 ≤ i ∧ i < ds.length ∧ Q (.bl true) H
theorem ok_is_number {f : Addr} {fd : FuncData} (F : Fun K "is_number" "is_number" s_is_number f fd) (T : Facts K mg cC cE cR) (c1 : C8.Cal P w K mg base 1 "is_from" spFrom []) : FnOk P w K mg base CX0 2 f fd ["dealings", "thing"] (spNumber K) := by
  refine F.ok sc_is_number (fun vs H Q E h => ?_) (fun cdv A outer s H vs Q E hr h => ?_)
  · obtain ⟨v, ds, i, rfl, _⟩ := h; rfl
  · obtain ⟨v, ds, i, rfl, ⟨a, us, rfl, hL, hp⟩, h0, h1, k⟩ := h
    have hl := paired_len hp
    refine ⟨_, pss_one (ps_ret (C8.pe_c c1 hr (by decide) rfl (pa_cons (pv 1) (pa_cons pe_int (pa_cons (pe_op op_sub (pe_callB call_len_seq (by rfl) T.z_len PySem.boot_len (pa_cons (pv 0) pa_nil)) pe_int) pa_nil))))), ?_⟩
    exact ⟨_, rfl, _, rfl, a, _, rfl, .inl hL, _, _, rfl, rfl, _, _, _, rfl, h0, by omega, k⟩
end
end K60

set_option Elab.async false
set_option linter.all false
set_option maxRecDepth 100000
set_option maxHeartbeats 4000000
namespace K60
open PySem L2 PySem.Spec
theorem hu65_of {k : Nat} {A : Around} (r : Room k A) : A.units + 65 < cLine := by have := r.un; omega
theorem cut_to (xs : List V) (i : Nat) : cutV xs none (some (i : Int)) = xs.take i := by
  unfold cutV
  rw [HT.sIx_none, HT.sIx_nat]
  simp only [List.drop_zero, Nat.sub_zero]
  by_cases h : i ≤ xs.length
  · rw [Nat.min_eq_left h]
  · rw [Nat.min_eq_right (by omega), List.take_of_length_le (Nat.le_refl _), List.take_of_length_le (by omega)]
/-- d[:i] of a dealing -/
theorem sl_deal {K : PySem.W.Frag} {H : Hp} {v : V} {d : Deal} {i : Nat} {Q : VK} (h : DealAt K H v d) (k : ∀ y H', Same H H' → DealAt K H' y (d.take i) → Q y H') : rSlA K v none (some (i : Int)) H Q := by
  obtain ⟨p, vs, rfl, hp, hv⟩ := h
  refine ⟨p, vs, rfl, hp, fun hw => ?_, fun _ q hq => ?_⟩
  · obtain ⟨_, h2⟩ := hw
    rw [HT.sIx_nat] at h2
    have hl := paired_len hv
    refine k _ H (Same.refl H) ⟨p, vs, rfl, hp, ?_⟩
    rw [List.take_of_length_le (by omega)]
    exact hv
  · have S := same_new (o := .tup (cutV vs none (some (i : Int)))) hq
    refine k _ _ S ⟨q, _, rfl, SqT.of upd_same, ?_⟩
    have e := paired_take i (Paired.mapP hv fun _ _ => StepAt.mono S)
    rw [← cut_to vs i] at e
    exact e
theorem wd_read (b : Bool) : decide (V.str (wd b) = V.str "read") = !b := by cases b <;> decide +kernel
theorem wd_write (b : Bool) : decide (V.str (wd b) = V.str "write") = b := by cases b <;> decide +kernel
def DealOk (d : Deal) : Prop := 1 ≤ d.length ∧ d.length ≤ 8 ∧ (∀ s ∈ d, BoxOk s.2) ∧ (d.map (·.2)).Nodup
theorem box_inj {d : Deal} (h : (d.map (·.2)).Nodup) {i : Nat} {s u : Stp} (hs : d[i]? = some s) (hu : u ∈ d.take i) : u.2 ≠ s.2 := by
  intro e
  obtain ⟨j, hj, hj2⟩ := List.getElem_of_mem hu
  rw [List.length_take] at hj
  rw [List.getElem_take] at hj2
  have hi := (List.getElem?_eq_some_iff.mp hs).1
  have e1 : (d.map (·.2))[j]? = (d.map (·.2))[i]? := by
    rw [List.getElem?_map, List.getElem?_map, hs, List.getElem?_eq_getElem (by omega), hj2]
    simp [e]
  have := (List.getElem?_inj (by rw [List.length_map]; omega) h).mp e1
  omega
section
variable {P : Program} {w : World} {K : PySem.W.Frag} {mg : Str → Option Value} {base : Heap} {cC cE cR : Addr}
def spOrder (K : PySem.W.Frag) : Sp := fun vs H Q _ => ∃ (v : V) (d : Deal), vs = [v] ∧ DealAt K H v d ∧ (d.map (·.2)).Nodup ∧ ∀ H', Same H H' → Q (.bl true) H'
theorem ok_in_order {f : Addr} {fd : FuncData} (F : Fun K "in_order" "in_order" s_in_order f fd) (T : Facts K mg cC cE cR) : FnOk P w K mg base CX0 1 f fd ["steps"] (spOrder K) := by
  refine F.ok sc_in_order (fun vs H Q E h => ?_) (fun cdv A outer s H vs Q E hr h => ?_)
  · obtain ⟨v, d, rfl, _⟩ := h; rfl
  · obtain ⟨v, d, rfl, hD, hnd, k⟩ := h
    obtain ⟨p, us, rfl, hp, hv⟩ := id hD
    have hu65 := hu65_of hr
    refine ⟨_, pss_cons (ps_for PassesOwn.never rfl (pi_enumT (by rfl) T.z_enumerate (pa_cons (pv 0) pa_nil)) (pg_tup rfl (pgs_cons (pg_name (i := 1) sc_in_order.nd rfl (Or.inl rfl)) (pgs_cons (pg_name (i := 2) sc_in_order.nd rfl (Or.inl rfl)) pgs_nil)))
        (pss_one (ps_if (PW.pt (pw_or (pt_cmpR (op_inDT hu65) (pv 2) (pe_slice sl_tupA (pv 0) po_none (po_some (pv 1))) (by rfl))
          (pw_or1 (PW.pt (pw_and (pt_cmpR op_eq (pe_ix ix_tup (pv 2) pe_int (fun _ _ => rfl)) pe_str (nomark _))
            (pw_and1 (pt_cmpR (op_inDT hu65) (pe_tup (pa_cons pe_str (pa_cons (pe_ix ix_tup (pv 2) pe_int (fun _ _ => rfl)) pa_nil))) (pe_slice sl_tupA (pv 0) po_none (po_some (pv 1))) (by rfl))))))))
          (pss_one (ps_ret pe_bl)) pss_nil)))
      (pss_one (ps_ret pe_bl)), ?_⟩
    refine ⟨_, rfl, p, us, rfl, hp, for_enumT (K := K) (a := p) (xs := us) (fun i σ H' => ∃ o1 o2, σ = [some (.ref p), o1, o2] ∧ Same H H')
      ⟨none, none, rfl, Same.refl H⟩ (fun i σ H' _ ⟨_, _, _, S⟩ => same_tup S hp) ?_ ?_⟩
    · rintro i x σ H1 t hx ⟨o1, o2, rfl, S⟩ ht
      obtain ⟨st, hst, q, rfl, hq⟩ := paired_get hv hx
      have S1 : Same H (upd H1 t (.tup [.int (i : Nat), .ref q])) := S.trans (same_new ht)
      refine ⟨t, _, rfl, SqT.of upd_same, rfl, _, _, rfl, _, _, rfl, rfl, ?_⟩
      refine ⟨_, rfl, _, rfl, _, rfl, i, rfl, sl_deal (hD.mono S1) fun y H2 S2 hy => in_deal (s := st) ⟨q, rfl, same_tup (S1.trans S2) hq⟩ hy ⟨_, rfl, ?_⟩⟩
      have n1 : st ∉ d.take i := fun h => box_inj hnd hst h rfl
      rw [decide_eq_false n1]
      refine iteF ⟨_, rfl, q, _, _, _, rfl, rfl, same_tup (S1.trans S2) hq, atI_nat (j := 0) rfl, rfl, _, rfl, ?_⟩
      rw [wd_read]
      cases hb : st.1 with
      | true =>
        refine iteF (iteF ?_)
        exact ⟨_, _, rfl, S1.trans S2⟩
      | false =>
        refine iteT ⟨_, rfl, q, _, _, _, rfl, rfl, same_tup (S1.trans S2) hq, atI_nat (j := 1) rfl, (by show 2 ≤ sizeLine; decide), fun t2 ht2 => ?_⟩
        have S3 := (S1.trans S2).trans (same_new (o := .tup [.str "write", .int st.2]) ht2)
        refine ⟨_, rfl, _, rfl, i, rfl, sl_deal (hD.mono S3) fun y2 H4 S4 hy2 => in_deal (s := (true, st.2)) ⟨t2, rfl, SqT.of (S4 _ _ upd_same)⟩ hy2 ⟨_, rfl, ?_⟩⟩
        have n2 : (true, st.2) ∉ d.take i := fun h => box_inj hnd hst h rfl
        rw [decide_eq_false n2]
        refine iteF ?_
        exact ⟨_, _, rfl, S3.trans S4⟩
    · rintro σ H1 ⟨o1, o2, rfl, S⟩
      exact k H1 S
end
end K60

set_option Elab.async false
set_option linter.all false
set_option maxRecDepth 100000
set_option maxHeartbeats 4000000
namespace K60
open PySem L2 PySem.Spec
theorem trues_snoc (i : Nat) : (List.replicate i true).map V.bl ++ [V.bl true] = (List.replicate (i + 1) true).map V.bl := by
  rw [List.replicate_succ', List.map_append]; rfl
theorem yesT {σ : L2.St} {H : Hp} {A B : Hp → Prop} (h : A H) : tYes σ H fun b H3 => if b = true then A H3 else B H3 := iteT (A := A H) (B := B H) h
theorem all_trues (i : Nat) : (List.replicate i true).all id = true := by
  rw [List.all_eq_true]; intro x hx; rw [List.eq_of_mem_replicate hx]; rfl
def DsOk (ds : List Deal) : Prop := 1 ≤ ds.length ∧ ds.length ≤ 100 ∧ ∀ d ∈ ds, DealOk d
section
variable {P : Program} {w : World} {K : PySem.W.Frag} {mg : Str → Option Value} {base : Heap} {cC cE cR : Addr}
def spDealing (K : PySem.W.Frag) : Sp := fun vs H Q _ => ∃ (v : V) (d : Deal), vs = [v] ∧ DealAt K H v d ∧ DealOk d ∧ ∀ H', Same H H' → Q (.bl true) H'
theorem ok_is_dealing {f : Addr} {fd : FuncData} (F : Fun K "is_dealing" "is_dealing" s_is_dealing f fd) (T : Facts K mg cC cE cR) (c1 : C8.Cal P w K mg base 3 "is_step" (spStep K) []) (c2 : C8.Cal P w K mg base 1 "in_order" (spOrder K) []) :
    FnOk P w K mg base CX0 4 f fd ["thing"] (spDealing K) := by
  refine F.ok sc_is_dealing (fun vs H Q E h => ?_) (fun cdv A outer s H vs Q E hr h => ?_)
  · obtain ⟨v, d, rfl, _⟩ := h; rfl
  · obtain ⟨v, d, rfl, hD, ⟨hl1, hl8, hbox, hnd⟩, k⟩ := h
    obtain ⟨p, us, rfl, hp, hv⟩ := id hD
    have hlen := paired_len hv
    refine ⟨_, pss_cons (ps_if (PW.pt (pw_or (pt_not (pt_val (pe_callB call_isi (by rfl) T.z_isinstance (by decide +kernel) (pa_cons (pv 0) (pa_cons (pe_bltn (v := .ty "tuple") (by rfl) T.z_tuple (by decide +kernel) rfl) pa_nil)))))
        (pw_or1 (pt_not (pt_chain op_le op_le pe_int (pe_callB call_len_seq (by rfl) T.z_len PySem.boot_len (pa_cons (pv 0) pa_nil)) (C8.pe_gc rfl T.k_MOST_STEPS)))))) (pss_one (ps_ret pe_bl)) pss_nil)
      (pss_one (ps_ret (pe_and (pe_callB (cr_all rfl) (by rfl) T.z_all (by decide +kernel) (pa_cons
          (pe_lc (own := [("step", 1)]) (g := gName 1) (tt := tYes) rfl sc_is_dealing.nd (pi_tup (pv 0)) (blkOk_by (own := [("step", 1)]) (N := ["thing", "step"]) (sc := defScope s_is_dealing) (by decide +kernel))
            (fun _ _ _ _ _ => pg_name (i := 1) sc_is_dealing.nd rfl (Or.inl rfl)) (fun _ _ _ _ _ => pts_nil) (fun _ _ _ _ _ => C8.pe_c c1 hr (by decide) rfl (pa_cons (pv 1) pa_nil))) pa_nil))
        (pe_one (C8.pe_c c2 hr (by decide) rfl (pa_cons (pv 0) pa_nil)))))), ?_⟩
    refine ⟨_, rfl, _, _, _, _, true, rfl, .ty "tuple", SqT_ty hp, kit_ty (by decide +kernel), true, rfl, iteF ?_⟩
    refine ⟨_, rfl, p, us, rfl, .inr hp, _, _, rfl, rfl, true, congrArg V.bl (decide_eq_true (by omega)), iteT ⟨_, _, rfl, rfl, true, congrArg V.bl (decide_eq_true (by show ((us.length : Nat) : Int) ≤ 8; omega)), iteF ?_⟩⟩
    refine ⟨_, rfl, p, rfl, ⟨us, hp⟩, fun D hD0 => lc_tup (K := K) (a := p) (xs := us) (fun i H' => H' D = some (.lst ((List.replicate i true).map V.bl)) ∧ Same H H') ⟨upd_same, same_new hD0⟩
      (fun i H' _ ⟨_, S⟩ => same_tup S hp) ?_ ?_⟩
    · rintro i x H1 hx ⟨h1, S⟩
      obtain ⟨st, hst, hstep⟩ := paired_get hv hx
      have hi : i < us.length := (List.getElem?_eq_some_iff.mp hx).1
      refine ⟨rfl, yesT ⟨_, rfl, _, st, rfl, hstep.mono S, hbox _ (List.mem_of_getElem? hst), _, h1, ?_, ?_⟩⟩
      · rw [List.length_map, List.length_replicate]; exact small1000 (by omega)
      · rw [trues_snoc]
        exact ⟨upd_same, same_upd S hD0⟩
    · rintro H1 ⟨h1, S⟩
      refine ⟨D, _, rfl, SqL.of h1, true, congrArg V.bl (all_trues _), iteT ?_⟩
      exact ⟨_, rfl, _, d, rfl, hD.mono S, hnd, fun H2 S2 => k H2 (S.trans S2)⟩

def spDealings (K : PySem.W.Frag) : Sp := fun vs H Q _ => ∃ (v : V) (ds : List Deal), vs = [v] ∧ DealsAt K H v ds ∧ DsOk ds ∧ ∀ H', Same H H' → Q (.bl true) H'
theorem ok_are_dealings {f : Addr} {fd : FuncData} (F : Fun K "are_dealings" "are_dealings" s_are_dealings f fd) (T : Facts K mg cC cE cR) (c1 : C8.Cal P w K mg base 4 "is_dealing" (spDealing K) []) :
    FnOk P w K mg base CX0 5 f fd ["thing"] (spDealings K) := by
  refine F.ok sc_are_dealings (fun vs H Q E h => ?_) (fun cdv A outer s H vs Q E hr h => ?_)
  · obtain ⟨v, d, rfl, _⟩ := h; rfl
  · obtain ⟨v, ds, rfl, hD, ⟨hl1, hl8, hds⟩, k⟩ := h
    obtain ⟨p, us, rfl, hp, hv⟩ := id hD
    have hlen := paired_len hv
    refine ⟨_, pss_cons (ps_if (PW.pt (pw_or (pt_not (pt_val (pe_callB call_isi (by rfl) T.z_isinstance (by decide +kernel) (pa_cons (pv 0) (pa_cons (pe_bltn (v := .ty "list") (by rfl) T.z_list (by decide +kernel) rfl) pa_nil)))))
        (pw_or1 (pt_not (pt_chain op_le op_le pe_int (pe_callB call_len_seq (by rfl) T.z_len PySem.boot_len (pa_cons (pv 0) pa_nil)) (C8.pe_gc rfl T.k_MOST_DEALINGS)))))) (pss_one (ps_ret pe_bl)) pss_nil)
      (pss_one (ps_ret (pe_callB (cr_all rfl) (by rfl) T.z_all (by decide +kernel) (pa_cons
          (pe_lc (own := [("dealing", 1)]) (g := gName 1) (tt := tYes) rfl sc_are_dealings.nd (pi_list (pv 0)) (blkOk_by (own := [("dealing", 1)]) (N := ["thing", "dealing"]) (sc := defScope s_are_dealings) (by decide +kernel))
            (fun _ _ _ _ _ => pg_name (i := 1) sc_are_dealings.nd rfl (Or.inl rfl)) (fun _ _ _ _ _ => pts_nil) (fun _ _ _ _ _ => C8.pe_c c1 hr (by decide) rfl (pa_cons (pv 1) pa_nil))) pa_nil)))), ?_⟩
    refine ⟨_, rfl, _, _, _, _, true, rfl, .ty "list", SqL_ty hp, kit_ty (by decide +kernel), true, rfl, iteF ?_⟩
    refine ⟨_, rfl, p, us, rfl, .inl hp, _, _, rfl, rfl, true, congrArg V.bl (decide_eq_true (by omega)), iteT ⟨_, _, rfl, rfl, true, congrArg V.bl (decide_eq_true (by show ((us.length : Nat) : Int) ≤ 100; omega)), iteF ?_⟩⟩
    refine ⟨_, rfl, p, rfl, ⟨us, hp⟩, fun D hD0 => lc_list (K := K) (a := p) (xs := us) (fun i H' => H' D = some (.lst ((List.replicate i true).map V.bl)) ∧ Same H H') ⟨upd_same, same_new hD0⟩
      (fun i H' _ ⟨_, S⟩ => S.seq hp) ?_ ?_⟩
    · rintro i x H1 hx ⟨h1, S⟩
      obtain ⟨d, hd, hdl⟩ := paired_get hv hx
      have hi : i < us.length := (List.getElem?_eq_some_iff.mp hx).1
      refine ⟨rfl, yesT ⟨_, rfl, _, d, rfl, hdl.mono S, hds _ (List.mem_of_getElem? hd), fun H2 S2 => ⟨_, S2 _ _ h1, ?_, ?_⟩⟩⟩
      · rw [List.length_map, List.length_replicate]; exact small1000 (by omega)
      · rw [trues_snoc]
        exact ⟨upd_same, same_upd (S.trans S2) hD0⟩
    · rintro H1 ⟨h1, S⟩
      refine ⟨D, _, rfl, SqL.of h1, ?_⟩
      rw [all_trues]
      exact k H1 S

def spLevels (K : PySem.W.Frag) : Sp := fun vs H Q _ => ∃ (v : V) (ls : List Lv) (n : Int), vs = [v, .int n] ∧ LvsAt K H v ls ∧ n = ls.length ∧ ls.length ≤ 100 ∧ ∀ H', Same H H' → Q (.bl true) H'
theorem ok_are_levels {f : Addr} {fd : FuncData} (F : Fun K "are_levels" "are_levels" s_are_levels f fd) (T : Facts K mg cC cE cR) (c1 : C8.Cal P w K mg base 1 "is_level" spLevel []) :
    FnOk P w K mg base CX0 2 f fd ["thing", "many"] (spLevels K) := by
  refine F.ok sc_are_levels (fun vs H Q E h => ?_) (fun cdv A outer s H vs Q E hr h => ?_)
  · obtain ⟨v, d, n, rfl, _⟩ := h; rfl
  · obtain ⟨v, ls, n, rfl, ⟨p, rfl, hp⟩, hn, h100, k⟩ := h
    refine ⟨_, pss_one (ps_ret (pe_and (pe_callB call_isi (by rfl) T.z_isinstance (by decide +kernel) (pa_cons (pv 0) (pa_cons (pe_bltn (v := .ty "list") (by rfl) T.z_list (by decide +kernel) rfl) pa_nil)))
        (pe_and (pe_cmpR op_eq (pe_callB call_len_seq (by rfl) T.z_len PySem.boot_len (pa_cons (pv 0) pa_nil)) (pv 1) (nomark _))
        (pe_one (pe_callB (cr_all rfl) (by rfl) T.z_all (by decide +kernel) (pa_cons
          (pe_lc (own := [("level", 2)]) (g := gName 2) (tt := tYes) rfl sc_are_levels.nd (pi_list (pv 0)) (blkOk_by (own := [("level", 2)]) (N := ["thing", "many", "level"]) (sc := defScope s_are_levels) (by decide +kernel))
            (fun _ _ _ _ _ => pg_name (i := 2) sc_are_levels.nd rfl (Or.inl rfl)) (fun _ _ _ _ _ => pts_nil) (fun _ _ _ _ _ => C8.pe_c c1 hr (by decide) rfl (pa_cons (pv 2) pa_nil))) pa_nil)))))), ?_⟩
    refine ⟨_, rfl, _, _, _, _, true, rfl, .ty "list", SqL_ty hp, kit_ty (by decide +kernel), true, rfl, iteT ?_⟩
    refine ⟨_, rfl, p, _, rfl, .inl hp, _, rfl, rfl, true, congrArg V.bl (decide_eq_true (by rw [hn, List.length_map])), iteT ?_⟩
    refine ⟨_, rfl, p, rfl, ⟨_, hp⟩, fun D hD0 => lc_list (K := K) (a := p) (xs := ls.map fun l => .str (lvS l)) (fun i H' => H' D = some (.lst ((List.replicate i true).map V.bl)) ∧ Same H H') ⟨upd_same, same_new hD0⟩
      (fun i H' _ ⟨_, S⟩ => S.seq hp) ?_ ?_⟩
    · rintro i x H1 hx ⟨h1, S⟩
      have hi : i < (ls.map fun l => V.str (lvS l)).length := (List.getElem?_eq_some_iff.mp hx).1
      rw [List.length_map] at hi
      obtain ⟨l, rfl⟩ : ∃ l, x = .str (lvS l) := by
        obtain ⟨l, _, e⟩ := List.mem_map.mp (List.mem_of_getElem? hx)
        exact ⟨l, e.symm⟩
      refine ⟨rfl, yesT ⟨_, rfl, l, rfl, _, h1, ?_, ?_⟩⟩
      · rw [List.length_map, List.length_replicate]; exact small1000 (by omega)
      · rw [trues_snoc]
        exact ⟨upd_same, same_upd S hD0⟩
    · rintro H1 ⟨h1, S⟩
      refine ⟨D, _, rfl, SqL.of h1, ?_⟩
      show Q (V.bl _) H1
      rw [all_trues]
      exact k H1 S

def spSureD (K : PySem.W.Frag) : Sp := fun vs H Q _ => ∃ (v : V) (ds : List Deal), vs = [v] ∧ DealsAt K H v ds ∧ DsOk ds ∧ ∀ H', Same H H' → Q .non H'
theorem ok_sure_dealings {f : Addr} {fd : FuncData} (F : Fun K "sure_dealings" "sure_dealings" s_sure_dealings f fd) (c1 : C8.Cal P w K mg base 5 "are_dealings" (spDealings K) []) :
    FnOk P w K mg base CX0 6 f fd ["thing"] (spSureD K) := by
  refine F.ok sc_sure_dealings (fun vs H Q E h => ?_) (fun cdv A outer s H vs Q E hr h => ?_)
  · obtain ⟨v, d, rfl, _⟩ := h; rfl
  · obtain ⟨v, ds, rfl, hD, hok, k⟩ := h
    refine ⟨_, pss_one (ps_if (pt_not (pt_val (C8.pe_c c1 hr (by decide) rfl (pa_cons (pv 0) pa_nil)))) (pss_one ps_never) pss_nil), ?_⟩
    exact ⟨_, rfl, _, ds, rfl, hD, hok, fun H' S => ⟨true, rfl, iteF (k H' S)⟩⟩
def spSureL (K : PySem.W.Frag) : Sp := fun vs H Q _ => ∃ (v u : V) (ds : List Deal) (ls : List Lv), vs = [v, u] ∧ DealsAt K H v ds ∧ LvsAt K H u ls ∧ DsOk ds ∧ ls.length = ds.length ∧ ∀ H', Same H H' → Q .non H'
theorem ok_sure_levels {f : Addr} {fd : FuncData} (F : Fun K "sure_levels" "sure_levels" s_sure_levels f fd) (T : Facts K mg cC cE cR) (c1 : C8.Cal P w K mg base 6 "sure_dealings" (spSureD K) []) (c2 : C8.Cal P w K mg base 2 "are_levels" (spLevels K) []) :
    FnOk P w K mg base CX0 7 f fd ["dealings", "levels"] (spSureL K) := by
  refine F.ok sc_sure_levels (fun vs H Q E h => ?_) (fun cdv A outer s H vs Q E hr h => ?_)
  · obtain ⟨v, u, ds, ls, rfl, _⟩ := h; rfl
  · obtain ⟨v, u, ds, ls, rfl, hD, hL, hok, hl, k⟩ := h
    refine ⟨_, pss_cons (ps_expr (C8.pe_c c1 hr (by decide) rfl (pa_cons (pv 0) pa_nil)))
      (pss_one (ps_if (pt_not (pt_val (C8.pe_c c2 hr (by decide) rfl (pa_cons (pv 1) (pa_cons (pe_callB call_len_seq (by rfl) T.z_len PySem.boot_len (pa_cons (pv 0) pa_nil)) pa_nil))))) (pss_one ps_never) pss_nil)), ?_⟩
    refine ⟨_, rfl, _, ds, rfl, hD, hok, fun H1 S1 => ?_⟩
    obtain ⟨p, us, rfl, hp, hv⟩ := hD.mono S1
    have := hok.2.1
    exact ⟨_, rfl, _, rfl, p, us, rfl, .inl hp, _, ls, _, rfl, hL.mono S1, by rw [paired_len hv, hl], by omega, fun H2 S2 => ⟨true, rfl, iteF (k H2 (S1.trans S2))⟩⟩
end
end K60

set_option Elab.async false
set_option linter.all false
set_option maxRecDepth 100000
set_option maxHeartbeats 4000000
namespace K60
open PySem L2 PySem.Spec
def boxesW (b : Bool) (d : Deal) : List Int := d.filterMap fun s => if s.1 = b then some s.2 else none
theorem mem_boxesW {b : Bool} {d : Deal} {x : Int} : x ∈ boxesW b d ↔ (b, x) ∈ d := by
  simp only [boxesW, List.mem_filterMap]
  constructor
  · rintro ⟨⟨c, y⟩, h, e⟩
    by_cases hc : c = b
    · simp [hc] at e; subst e; subst hc; exact h
    · simp [hc] at e
  · intro h; exact ⟨_, h, by simp⟩
theorem boxesW_take {b : Bool} {d : Deal} {i : Nat} {s : Stp} (h : d[i]? = some s) : boxesW b (d.take (i + 1)) = boxesW b (d.take i) ++ (if s.1 = b then [s.2] else []) := by
  rw [List.take_add_one, h]
  simp only [boxesW, List.filterMap_append, Option.toList_some, List.filterMap_cons, List.filterMap_nil]
  by_cases e : s.1 = b <;> simp [e]
theorem boxesW_len (b : Bool) (d : Deal) : (boxesW b d).length ≤ d.length := List.length_filterMap_le _ _
theorem wd_eq (a b : Bool) : decide (V.str (wd a) = V.str (wd b)) = decide (a = b) := by cases a <;> cases b <;> decide +kernel
section
variable {P : Program} {w : World} {K : PySem.W.Frag} {mg : Str → Option Value} {base : Heap} {cC cE cR : Addr}
def spBoxes (K : PySem.W.Frag) : Sp := fun vs H Q _ => ∃ (v : V) (d : Deal) (b : Bool), vs = [v, .str (wd b)] ∧ DealAt K H v d ∧ d.length ≤ 8 ∧
  ∀ (p : Addr) (ns : List Int) (H' : Hp), Same H H' → SqL K H' p (ns.map V.int) → (∀ x, x ∈ ns ↔ (b, x) ∈ d) → ns.length ≤ 8 → Q (.ref p) H'
theorem ok_boxes_of {f : Addr} {fd : FuncData} (F : Fun K "boxes_of" "boxes_of" s_boxes_of f fd) (T : Facts K mg cC cE cR) : FnOk P w K mg base CX0 1 f fd ["steps", "word"] (spBoxes K) := by
  refine F.ok sc_boxes_of (fun vs H Q E h => ?_) (fun cdv A outer s H vs Q E hr h => ?_)
  · obtain ⟨v, d, b, rfl, _⟩ := h; rfl
  · obtain ⟨v, d, b, rfl, hD, h8, k⟩ := h
    obtain ⟨p, us, rfl, hp, hv⟩ := id hD
    have hlen := paired_len hv
    refine ⟨_, pss_one (ps_ret (pe_callB cr_sorted (by rfl) T.z_sorted (by decide +kernel) (pa_cons
      (pe_lc (own := [("told", 2), ("box", 3)]) (g := gTup K 2 (gCons (gName 2) (gCons (gName 3) gNil))) (tt := tTest (tOp rEq (tVar 2) (tVar 1))) rfl sc_boxes_of.nd (pi_tup (pv 0)) (blkOk_by (own := [("told", 2), ("box", 3)]) (N := ["steps", "word", "told", "box"]) (sc := defScope s_boxes_of) (by decide +kernel))
        (fun _ _ _ _ _ => pg_tup (by rfl) (pgs_cons (pg_name (i := 2) sc_boxes_of.nd rfl (Or.inl rfl)) (pgs_cons (pg_name (i := 3) sc_boxes_of.nd rfl (Or.inl rfl)) pgs_nil)))
        (fun _ _ _ _ _ => pts_one (pt_cmpR op_eq (pv 2) (pv 1) (nomark _))) (fun _ _ _ _ _ => pv 3)) pa_nil))), ?_⟩
    refine ⟨_, rfl, p, rfl, ⟨us, hp⟩, fun D hD0 => lc_tup (K := K) (a := p) (xs := us) (fun i H' => H' D = some (.lst ((boxesW b (d.take i)).map V.int)) ∧ Same H H') ⟨upd_same, same_new hD0⟩
      (fun i H' _ ⟨_, S⟩ => same_tup S hp) ?_ ?_⟩
    · rintro i x H1 hx ⟨h1, S⟩
      obtain ⟨st, hst, q, rfl, hq⟩ := paired_get hv hx
      have hi : i < us.length := (List.getElem?_eq_some_iff.mp hx).1
      refine ⟨q, _, rfl, same_tup S hq, rfl, _, _, rfl, _, _, rfl, rfl, rfl, _, rfl, _, rfl, rfl, _, rfl, ?_⟩
      rw [wd_eq, boxesW_take hst]
      by_cases e : st.1 = b
      · rw [decide_eq_true e, if_pos e]
        refine iteT ⟨_, rfl, _, h1, ?_, ?_, same_upd S hD0⟩
        · rw [List.length_map]
          have := boxesW_len b (d.take i)
          rw [List.length_take] at this
          exact small1000 (by omega)
        · rw [List.map_append]; exact upd_same
      · rw [decide_eq_false e, if_neg e, List.append_nil]
        exact iteF ⟨h1, S⟩
    · rintro H1 ⟨h1, S⟩
      rw [List.take_of_length_le (by omega)] at h1
      have hb := boxesW_len b d
      refine ⟨D, _, rfl, SqL.of h1, by omega, fun ns' p' hperm _ hp' => ?_⟩
      exact k p' ns' _ (S.trans (same_new hp')) (SqL.of upd_same) (fun x => by rw [hperm.mem_iff, mem_boxesW]) (by rw [hperm.length_eq]; omega)

def spKept (K : PySem.W.Frag) : Sp := fun vs H Q _ => ∃ (v : V) (d : Deal) (a : Nat) (l : Lv), vs = [v, .int a, .str (lvS l)] ∧ DealAt K H v d ∧ d.length ≤ 8 ∧
  ∀ (p : Addr) (ns : List Int) (H' : Hp), Same H H' → SqL K H' p (ns.map V.int) → (∀ x ∈ ns, (true, x) ∈ d) → ns.length ≤ 8 → Q (.ref p) H'
theorem lv_lax (l : Lv) : decide (V.str (lvS l) = V.str "lax") = decide (l = .lax) := by cases l <;> decide +kernel
theorem lv_whole (l : Lv) : decide (V.str (lvS l) = V.str "whole") = decide (l = .whole) := by cases l <;> decide +kernel
theorem ok_kept_apart {f : Addr} {fd : FuncData} (F : Fun K "kept_apart" "kept_apart" s_kept_apart f fd) (T : Facts K mg cC cE cR) (c1 : C8.Cal P w K mg base 1 "boxes_of" (spBoxes K) []) : FnOk P w K mg base CX0 2 f fd ["one", "at", "level"] (spKept K) := by
  refine F.ok sc_kept_apart (fun vs H Q E h => ?_) (fun cdv A outer s H vs Q E hr h => ?_)
  · obtain ⟨v, d, a, l, rfl, _⟩ := h; rfl
  · obtain ⟨v, d, a, l, rfl, hD, h8, k⟩ := h
    refine ⟨_, pss_cons (ps_if (pt_cmpR op_eq (pv 2) pe_str (nomark _)) (pss_one (ps_ret (C8.pe_c c1 hr (by decide) rfl (pa_cons (pe_slice sl_tupA (pv 0) po_none (po_some (pe_op op_add (pv 1) pe_int))) (pa_cons pe_str pa_nil))))) pss_nil)
      (pss_one (ps_ret (C8.pe_c c1 hr (by decide) rfl (pa_cons (pv 0) (pa_cons pe_str pa_nil))))), ?_⟩
    refine ⟨_, rfl, rfl, _, rfl, ?_⟩
    refine ite2 (fun _ => ?_) (fun _ => ?_)
    · refine ⟨_, rfl, _, rfl, _, _, rfl, rfl, _, rfl, sl_deal (i := a + 1) hD fun y H1 S1 hy => ?_⟩
      refine ⟨y, _, true, rfl, hy, by rw [List.length_take]; omega, fun p ns H2 S2 hn hm hl => ?_⟩
      exact k p ns H2 (S1.trans S2) hn (fun x hx => List.mem_of_mem_take ((hm x).mp hx)) hl
    · exact ⟨_, rfl, v, d, true, rfl, hD, h8, fun p ns H2 S2 hn hm hl => k p ns H2 S2 hn (fun x hx => (hm x).mp hx) hl⟩

def spAny (b : Bool) (K : PySem.W.Frag) : Sp := fun vs H Q _ => ∃ (v u : V) (d : Deal) (ns : List Int), vs = [v, u] ∧ DealAt K H v d ∧ IntsAt K H u ns ∧ ns.length ≤ 100 ∧
  ∀ H', Same H H' → Q (.bl (ns.any fun x => decide ((b, x) ∈ d))) H'
theorem anys_take (ns : List Int) (i : Nat) (x : Int) (h : ns[i]? = some x) (g : Int → Bool) : ((ns.take i).map g).map V.bl ++ [V.bl (g x)] = ((ns.take (i + 1)).map g).map V.bl := by
  rw [List.take_add_one, h]; simp
theorem ints_get {ns : List Int} {i : Nat} {y : V} (h : (ns.map V.int)[i]? = some y) : ∃ x, ns[i]? = some x ∧ y = .int x := by
  rw [List.getElem?_map] at h
  cases e : ns[i]? with
  | none => rw [e] at h; cases h
  | some x => rw [e] at h; exact ⟨x, rfl, (Option.some.inj h).symm⟩
theorem ok_writes_any {f : Addr} {fd : FuncData} (F : Fun K "writes_any" "writes_any" s_writes_any f fd) (T : Facts K mg cC cE cR) : FnOk P w K mg base CX0 1 f fd ["dealing", "boxes"] (spAny true K) := by
  refine F.ok sc_writes_any (fun vs H Q E h => ?_) (fun cdv A outer s H vs Q E hr h => ?_)
  · obtain ⟨v, u, d, ns, rfl, _⟩ := h; rfl
  · obtain ⟨v, u, d, ns, rfl, hD, ⟨a, rfl, ha⟩, hl, k⟩ := h
    have hu65 := hu65_of hr
    refine ⟨_, pss_one (ps_ret (pe_callB (cr_any rfl) (by rfl) T.z_any (by decide +kernel) (pa_cons
      (pe_lc (own := [("box", 2)]) (g := gName 2) (tt := tYes) (te := tOp (rInDT K) (tTup (tCons (tC (.str "write")) (tCons (tVar 2) tNil))) (tVar 0)) rfl sc_writes_any.nd (pi_list (pv 1)) (blkOk_by (own := [("box", 2)]) (N := ["dealing", "boxes", "box"]) (sc := defScope s_writes_any) (by decide +kernel))
        (fun _ _ _ _ _ => pg_name (i := 2) sc_writes_any.nd rfl (Or.inl rfl)) (fun _ _ _ _ _ => pts_nil) (fun _ _ _ _ _ => pe_cmpR (op_inDT hu65) (pe_tup (pa_cons pe_str (pa_cons (pv 2) pa_nil))) (pv 0) (by rfl))) pa_nil))), ?_⟩
    refine ⟨_, rfl, a, rfl, ⟨_, ha⟩, fun D hD0 => lc_list (K := K) (a := a) (xs := ns.map V.int) (fun i H' => H' D = some (.lst (((ns.take i).map fun x => decide ((true, x) ∈ d)).map V.bl)) ∧ Same H H') ⟨by simp [upd_same], same_new hD0⟩
      (fun i H' _ ⟨_, S⟩ => S.seq ha) ?_ ?_⟩
    · rintro i y H1 hy ⟨h1, S⟩
      obtain ⟨x, hx, rfl⟩ := ints_get hy
      have hi := (List.getElem?_eq_some_iff.mp hx).1
      refine ⟨rfl, yesT ⟨_, rfl, (by show 2 ≤ sizeLine; decide), fun t ht => ⟨_, rfl, in_deal (s := (true, x)) ⟨t, rfl, SqT.of upd_same⟩ (hD.mono (S.trans (same_new ht))) ?_⟩⟩⟩
      refine ⟨_, (same_new ht) _ _ h1, ?_, ?_, same_upd (S.trans (same_new ht)) hD0⟩
      · rw [List.length_map, List.length_map, List.length_take]; exact small1000 (by omega)
      · rw [anys_take ns i x hx]; exact upd_same
    · rintro H1 ⟨h1, S⟩
      rw [List.length_map, List.take_length] at h1
      refine ⟨D, _, rfl, SqL.of h1, ?_⟩
      have := k H1 S
      rw [List.any_map]
      exact this
theorem ok_reads_any {f : Addr} {fd : FuncData} (F : Fun K "reads_any" "reads_any" s_reads_any f fd) (T : Facts K mg cC cE cR) : FnOk P w K mg base CX0 1 f fd ["dealing", "boxes"] (spAny false K) := by
  refine F.ok sc_reads_any (fun vs H Q E h => ?_) (fun cdv A outer s H vs Q E hr h => ?_)
  · obtain ⟨v, u, d, ns, rfl, _⟩ := h; rfl
  · obtain ⟨v, u, d, ns, rfl, hD, ⟨a, rfl, ha⟩, hl, k⟩ := h
    have hu65 := hu65_of hr
    refine ⟨_, pss_one (ps_ret (pe_callB (cr_any rfl) (by rfl) T.z_any (by decide +kernel) (pa_cons
      (pe_lc (own := [("box", 2)]) (g := gName 2) (tt := tYes) (te := tOp (rInDT K) (tTup (tCons (tC (.str "read")) (tCons (tVar 2) tNil))) (tVar 0)) rfl sc_reads_any.nd (pi_list (pv 1)) (blkOk_by (own := [("box", 2)]) (N := ["dealing", "boxes", "box"]) (sc := defScope s_reads_any) (by decide +kernel))
        (fun _ _ _ _ _ => pg_name (i := 2) sc_reads_any.nd rfl (Or.inl rfl)) (fun _ _ _ _ _ => pts_nil) (fun _ _ _ _ _ => pe_cmpR (op_inDT hu65) (pe_tup (pa_cons pe_str (pa_cons (pv 2) pa_nil))) (pv 0) (by rfl))) pa_nil))), ?_⟩
    refine ⟨_, rfl, a, rfl, ⟨_, ha⟩, fun D hD0 => lc_list (K := K) (a := a) (xs := ns.map V.int) (fun i H' => H' D = some (.lst (((ns.take i).map fun x => decide ((false, x) ∈ d)).map V.bl)) ∧ Same H H') ⟨by simp [upd_same], same_new hD0⟩
      (fun i H' _ ⟨_, S⟩ => S.seq ha) ?_ ?_⟩
    · rintro i y H1 hy ⟨h1, S⟩
      obtain ⟨x, hx, rfl⟩ := ints_get hy
      have hi := (List.getElem?_eq_some_iff.mp hx).1
      refine ⟨rfl, yesT ⟨_, rfl, (by show 2 ≤ sizeLine; decide), fun t ht => ⟨_, rfl, in_deal (s := (false, x)) ⟨t, rfl, SqT.of upd_same⟩ (hD.mono (S.trans (same_new ht))) ?_⟩⟩⟩
      refine ⟨_, (same_new ht) _ _ h1, ?_, ?_, same_upd (S.trans (same_new ht)) hD0⟩
      · rw [List.length_map, List.length_map, List.length_take]; exact small1000 (by omega)
      · rw [anys_take ns i x hx]; exact upd_same
    · rintro H1 ⟨h1, S⟩
      rw [List.length_map, List.take_length] at h1
      refine ⟨D, _, rfl, SqL.of h1, ?_⟩
      have := k H1 S
      rw [List.any_map]
      exact this
end
end K60

set_option Elab.async false
set_option linter.all false
set_option maxRecDepth 100000
set_option maxHeartbeats 4000000
namespace K60
open PySem L2 PySem.Spec
def clash (e : Deal) (s : Stp) : Bool := decide ((true, s.2) ∈ e) || (s.1 && decide ((false, s.2) ∈ e))
def clashL (e d : Deal) : List Int := d.filterMap fun s => if clash e s = true then some s.2 else none
theorem clashL_take {e d : Deal} {i : Nat} {s : Stp} (h : d[i]? = some s) : clashL e (d.take (i + 1)) = clashL e (d.take i) ++ (if clash e s = true then [s.2] else []) := by
  rw [List.take_add_one, h]
  simp only [clashL, List.filterMap_append, Option.toList_some, List.filterMap_cons, List.filterMap_nil]
  by_cases c : clash e s = true <;> simp [c]
theorem clashL_len (e d : Deal) : (clashL e d).length ≤ d.length := List.length_filterMap_le _ _
theorem clashL_ne {e d : Deal} {s : Stp} (h : s ∈ d) (c : clash e s = true) : clashL e d ≠ [] := by
  have : s.2 ∈ clashL e d := List.mem_filterMap.mpr ⟨s, h, by simp [c]⟩
  intro z
  rw [z] at this
  cases this
/-- what bars a row amid a whole one -/
def hitW (M d : Deal) : Bool := (boxesW false M).any fun b => decide ((true, b) ∈ d)
def hitR (M d : Deal) : Bool := (boxesW true M).any fun b => decide ((false, b) ∈ d)
def dueL (M : Deal) : List (Deal × Lv) → Bool → Bool
  | [], _ => false
  | (d, l) :: r, a => if ((a || (decide (l = .whole) && hitW M d)) && decide (l = .whole)) && hitR M d then true else dueL M r (a || (decide (l = .whole) && hitW M d))
theorem dueL_cons (M d : Deal) (l : Lv) (r : List (Deal × Lv)) (a : Bool) : dueL M ((d, l) :: r) a = if ((a || (decide (l = .whole) && hitW M d)) && decide (l = .whole)) && hitR M d then true else dueL M r (a || (decide (l = .whole) && hitW M d)) := rfl
theorem any_same {ns ms : List Int} (h : ∀ x, x ∈ ns ↔ x ∈ ms) (g : Int → Bool) : ns.any g = ms.any g := by
  rw [Bool.eq_iff_iff, List.any_eq_true, List.any_eq_true]
  constructor
  · rintro ⟨x, hx, e⟩; exact ⟨x, (h x).mp hx, e⟩
  · rintro ⟨x, hx, e⟩; exact ⟨x, (h x).mpr hx, e⟩
def RowAt (K : PySem.W.Frag) (H : Hp) (v : V) (x : Deal × Lv) : Prop := ∃ p u, v = .ref p ∧ SqT K H p [u, .str (lvS x.2)] ∧ DealAt K H u x.1
theorem RowAt.mono {K : PySem.W.Frag} {H H' : Hp} (e : Same H H') {v : V} {x : Deal × Lv} : RowAt K H v x → RowAt K H' v x := fun ⟨p, u, a, b, c⟩ => ⟨p, u, a, same_tup e b, c.mono e⟩
section
variable {P : Program} {w : World} {K : PySem.W.Frag} {mg : Str → Option Value} {base : Heap} {cC cE cR : Addr}
def spCloses (K : PySem.W.Frag) : Sp := fun vs H Q _ => ∃ (v x u : V) (d e : Deal) (l : Lv) (b : Int), vs = [v, x, .str (lvS l), u] ∧ DealAt K H v d ∧ DealAt K H u e ∧ d.length ≤ 8 ∧ (true, b) ∈ d ∧ (false, b) ∈ e ∧
  ∀ H', Same H H' → Q (.bl true) H'
theorem ok_closes {f : Addr} {fd : FuncData} (F : Fun K "closes" "closes" s_closes f fd) (c1 : C8.Cal P w K mg base 1 "boxes_of" (spBoxes K) []) (c2 : C8.Cal P w K mg base 1 "reads_any" (spAny false K) []) :
    FnOk P w K mg base CX0 2 f fd ["one", "at", "level", "other"] (spCloses K) := by
  refine F.ok sc_closes (fun vs H Q E h => ?_) (fun cdv A outer s H vs Q E hr h => ?_)
  · obtain ⟨v, x, u, d, e, l, b, rfl, _⟩ := h; rfl
  · obtain ⟨v, x, u, d, e, l, b, rfl, hD, hE, h8, h1, h2, k⟩ := h
    refine ⟨_, pss_cons (ps_if (pt_val (C8.pe_c c2 hr (by decide) rfl (pa_cons (pv 3) (pa_cons (C8.pe_c c1 hr (by decide) rfl (pa_cons (pv 0) (pa_cons pe_str pa_nil))) pa_nil)))) (pss_one (ps_ret pe_bl)) pss_nil) pss_never, ?_⟩
    refine ⟨_, rfl, _, rfl, v, d, true, rfl, hD, h8, fun p ns H1 S1 hn hm hl => ?_⟩
    refine ⟨u, .ref p, e, ns, rfl, hE.mono S1, ⟨p, rfl, hn⟩, by omega, fun H2 S2 => ⟨_, rfl, ?_⟩⟩
    have : ns.any (fun x => decide ((false, x) ∈ e)) = true := List.any_eq_true.mpr ⟨b, (hm b).mpr h1, decide_eq_true h2⟩
    rw [this]
    exact iteT (k H2 (S1.trans S2))

def spMeeting (K : PySem.W.Frag) : Sp := fun vs H Q _ => ∃ (v u : V) (d e : Deal), vs = [v, u] ∧ DealAt K H v d ∧ DealAt K H u e ∧ d.length ≤ 8 ∧ (∃ s ∈ d, clash e s = true) ∧
  ∀ (p : Addr) (ns : List Int) (H' : Hp), Same H H' → SqL K H' p (ns.map V.int) → ns ≠ [] → Q (.ref p) H'
theorem ok_meeting {f : Addr} {fd : FuncData} (F : Fun K "meeting" "meeting" s_meeting f fd) (T : Facts K mg cC cE cR) : FnOk P w K mg base CX0 1 f fd ["one", "other"] (spMeeting K) := by
  refine F.ok sc_meeting (fun vs H Q E h => ?_) (fun cdv A outer s H vs Q E hr h => ?_)
  · obtain ⟨v, u, d, e, rfl, _⟩ := h; rfl
  · obtain ⟨v, u, d, e, rfl, hD, hE, h8, hc, k⟩ := h
    obtain ⟨p, us, rfl, hp, hv⟩ := id hD
    have hlen := paired_len hv
    have hu65 := hu65_of hr
    refine ⟨_, pss_cons (ps_set (i := 2) sc_meeting.nd rfl (Or.inl rfl) (pe_lst pa_nil))
      (pss_cons (ps_for PassesOwn.never rfl (pi_tup (pv 0)) (pg_tup (by rfl) (pgs_cons (pg_name (i := 3) sc_meeting.nd rfl (Or.inl rfl)) (pgs_cons (pg_name (i := 4) sc_meeting.nd rfl (Or.inl rfl)) pgs_nil)))
        (pss_one (ps_if (PW.pt (pw_or (pt_cmpR (op_inDT hu65) (pe_tup (pa_cons pe_str (pa_cons (pv 4) pa_nil))) (pv 1) (by rfl))
          (pw_or1 (PW.pt (pw_and (pt_cmpR op_eq (pv 3) pe_str (nomark _)) (pw_and1 (pt_cmpR (op_inDT hu65) (pe_tup (pa_cons pe_str (pa_cons (pv 4) pa_nil))) (pv 1) (by rfl))))))))
          (pss_one (ps_expr (pe_bm PySem.F.plainAttrs_list PySem.F.slot_list_append PySem.F.type_list_append mt_append (pv 2) (pa_cons (pv 4) pa_nil)))) pss_nil)))
      (pss_one (ps_ret (pe_callB (cr_sortedSet rfl) (by rfl) T.z_sorted (by decide +kernel) (pa_cons (pe_callTy (cr_setList rfl) (by rfl) T.z_set (by decide +kernel) (pa_cons (pv 2) pa_nil)) pa_nil))))), ?_⟩
    refine ⟨Nat.zero_le _, fun l hl => ?_⟩
    refine ⟨_, rfl, p, rfl, ⟨us, same_tup (same_new hl) hp⟩, for_tup (K := K) (a := p) (xs := us) (fun i σ H' => ∃ o1 o2, σ = [some (.ref p), some u, some (.ref l), o1, o2] ∧ H' l = some (.lst ((clashL e (d.take i)).map V.int)) ∧ Same H H')
      ⟨none, none, rfl, upd_same, same_new hl⟩ (fun i σ H' _ ⟨_, _, _, _, S⟩ => same_tup S hp) ?_ ?_⟩
    · rintro i x σ H1 hx ⟨o1, o2, rfl, h1, S⟩
      obtain ⟨st, hst, q, rfl, hq⟩ := paired_get hv hx
      have hi : i < us.length := (List.getElem?_eq_some_iff.mp hx).1
      have hcl := clashL_len e (d.take i)
      rw [List.length_take] at hcl
      have fin : ∀ H2, Same H H2 → H2 l = some (.lst ((clashL e (d.take i)).map V.int)) → clash e st = true → ∃ o1 o2, [some (V.ref p), some u, some (V.ref l), some (V.str (wd st.1)), some (V.int st.2)] = [some (V.ref p), some u, some (V.ref l), o1, o2] ∧
          (upd H2 l (.lst ((clashL e (d.take i)).map V.int ++ [V.int st.2]))) l = some (.lst ((clashL e (d.take (i + 1))).map V.int)) ∧ Same H (upd H2 l (.lst ((clashL e (d.take i)).map V.int ++ [V.int st.2]))) := by
        intro H2 S2 h2 c
        refine ⟨_, _, rfl, ?_, same_upd S2 hl⟩
        rw [upd_same, clashL_take hst, if_pos c, List.map_append]; rfl
      have fin0 : ∀ H2, Same H H2 → H2 l = some (.lst ((clashL e (d.take i)).map V.int)) → clash e st = false → ∃ o1 o2, [some (V.ref p), some u, some (V.ref l), some (V.str (wd st.1)), some (V.int st.2)] = [some (V.ref p), some u, some (V.ref l), o1, o2] ∧
          H2 l = some (.lst ((clashL e (d.take (i + 1))).map V.int)) ∧ Same H H2 := by
        intro H2 S2 h2 c
        refine ⟨_, _, rfl, ?_, S2⟩
        rw [clashL_take hst, if_neg (by rw [c]; decide), List.append_nil]; exact h2
      refine ⟨q, _, rfl, same_tup S hq, rfl, _, _, rfl, _, _, rfl, rfl, ?_⟩
      refine ⟨_, rfl, (by show 2 ≤ sizeLine; decide), fun t ht => ⟨_, rfl, in_deal (s := (true, st.2)) ⟨t, rfl, SqT.of upd_same⟩ (hE.mono (S.trans (same_new ht))) ⟨_, rfl, ?_⟩⟩⟩
      have S1 := S.trans (same_new (o := .tup [.str "write", .int st.2]) ht)
      have h1' := (same_new (o := .tup [.str "write", .int st.2]) ht) _ _ h1
      by_cases c1 : (true, st.2) ∈ e
      · rw [decide_eq_true c1]
        refine iteT (iteT ⟨_, rfl, .inl ⟨rfl, _, SqL.of h1'⟩, _, rfl, l, _, _, rfl, rfl, h1', ?_, fin _ S1 h1' (by simp [clash, c1])⟩)
        rw [List.length_map]; exact small1000 (by omega)
      · rw [decide_eq_false c1]
        refine iteF ⟨_, rfl, rfl, _, rfl, ?_⟩
        rw [wd_write]
        cases hb : st.1 with
        | false =>
          refine iteF (iteF ?_)
          have := fin0 _ S1 h1' (by simp [clash, c1, hb])
          rw [hb] at this
          exact this
        | true =>
          refine iteT ⟨_, rfl, (by show 2 ≤ sizeLine; decide), fun t2 ht2 => ⟨_, rfl, in_deal (s := (false, st.2)) ⟨t2, rfl, SqT.of upd_same⟩ (hE.mono (S1.trans (same_new ht2))) ⟨_, rfl, ?_⟩⟩⟩
          have S3 := S1.trans (same_new (o := .tup [.str "read", .int st.2]) ht2)
          have h3 := (same_new (o := .tup [.str "read", .int st.2]) ht2) _ _ h1'
          by_cases c2 : (false, st.2) ∈ e
          · rw [decide_eq_true c2]
            have := fin _ S3 h3 (by simp [clash, c2, hb])
            rw [hb] at this
            refine iteT ⟨_, rfl, .inl ⟨rfl, _, SqL.of h3⟩, _, rfl, l, _, _, rfl, rfl, h3, ?_, this⟩
            rw [List.length_map]; exact small1000 (by omega)
          · rw [decide_eq_false c2]
            have := fin0 _ S3 h3 (by simp [clash, c1, c2])
            rw [hb] at this
            exact iteF this
    · rintro σ H1 ⟨o1, o2, rfl, h1, S⟩
      rw [List.take_of_length_le (by omega)] at h1
      have hcl := clashL_len e d
      refine ⟨_, rfl, l, _, rfl, SqL.of h1, by omega, fun a c ha hc' => ?_⟩
      refine ⟨a, _, _, rfl, upd_same, by omega, fun ns p2 _ hm hlen hp2 => ?_⟩
      refine k p2 ns _ ((S.trans (same_new ha)).trans (same_new hp2)) (SqL.of upd_same) ?_
      intro z
      obtain ⟨s0, hs0, hcs⟩ := hc
      have hne := clashL_ne hs0 hcs
      obtain ⟨b, hb⟩ := List.exists_mem_of_ne_nil _ hne
      have := (hm b).mpr (decide_eq_true hb)
      rw [z] at this
      cases this

def spIsBarred (K : PySem.W.Frag) : Sp := fun vs H Q _ => ∃ (v : V) (a : Addr) (M : Deal) (l : Lv) (ts : List V) (xs : List (Deal × Lv)), vs = [v, .str (lvS l), .ref a] ∧ DealAt K H v M ∧ M.length ≤ 8 ∧ SqL K H a ts ∧ Paired (RowAt K H) ts xs ∧
  ∀ H', Same H H' → Q (.bl (decide (l = .whole) && dueL M xs false)) H'
theorem ok_is_barred {f : Addr} {fd : FuncData} (F : Fun K "is_barred" "is_barred" s_is_barred f fd) (T : Facts K mg cC cE cR) (c1 : C8.Cal P w K mg base 1 "boxes_of" (spBoxes K) [])
    (c2 : C8.Cal P w K mg base 1 "writes_any" (spAny true K) []) (c3 : C8.Cal P w K mg base 1 "reads_any" (spAny false K) []) : FnOk P w K mg base CX0 2 f fd ["one", "level", "row"] (spIsBarred K) := by
  refine F.ok sc_is_barred (fun vs H Q E h => ?_) (fun cdv A outer s H vs Q E hr h => ?_)
  · obtain ⟨v, a, M, l, ts, xs, rfl, _⟩ := h; rfl
  · obtain ⟨v, a, M, l, ts, xs, rfl, hM, h8, ha, hts, k⟩ := h
    refine ⟨_, pss_cons (ps_if (pt_cmpR op_ne (pv 1) pe_str (nomark _)) (pss_one (ps_ret pe_bl)) pss_nil)
      (pss_cons (ps_set (i := 3) sc_is_barred.nd rfl (Or.inl rfl) pe_bl)
      (pss_cons (ps_for PassesOwn.never rfl (pi_list (pv 2)) (pg_tup (by rfl) (pgs_cons (pg_name (i := 4) sc_is_barred.nd rfl (Or.inl rfl)) (pgs_cons (pg_name (i := 5) sc_is_barred.nd rfl (Or.inl rfl)) pgs_nil)))
        (pss_cons (ps_if (PW.pt (pw_and (pt_cmpR op_eq (pv 5) pe_str (nomark _)) (pw_and1 (pt_val (C8.pe_c c2 hr (by decide) rfl (pa_cons (pv 4) (pa_cons (C8.pe_c c1 hr (by decide) rfl (pa_cons (pv 0) (pa_cons pe_str pa_nil))) pa_nil)))))))
            (pss_one (ps_set (i := 3) sc_is_barred.nd rfl (Or.inl rfl) pe_bl)) pss_nil)
          (pss_one (ps_if (PW.pt (pw_and (pt_val (pv 3)) (pw_and (pt_cmpR op_eq (pv 5) pe_str (nomark _)) (pw_and1 (pt_val (C8.pe_c c3 hr (by decide) rfl (pa_cons (pv 4) (pa_cons (C8.pe_c c1 hr (by decide) rfl (pa_cons (pv 0) (pa_cons pe_str pa_nil))) pa_nil))))))))
            (pss_one (ps_ret pe_bl)) pss_nil))))
      (pss_one (ps_ret pe_bl)))), ?_⟩
    refine ⟨_, rfl, rfl, _, rfl, ?_⟩
    rw [lv_whole]
    by_cases hw : l = .whole
    · rw [decide_eq_true hw]
      refine iteF ?_
      have k' : ∀ H', Same H H' → Q (.bl (dueL M xs false)) H' := fun H' S => by have := k H' S; rw [decide_eq_true hw] at this; exact this
      refine ⟨_, rfl, a, rfl, ⟨_, ha⟩, for_list (K := K) (a := a) (xs := ts) (fun i σ H' => ∃ (ah : Bool) (o1 o2 : Option V), σ = [some v, some (.str (lvS l)), some (.ref a), some (.bl ah), o1, o2] ∧ Same H H' ∧ dueL M xs false = dueL M (xs.drop i) ah)
        ⟨false, none, none, rfl, Same.refl H, rfl⟩ (fun i σ H' _ ⟨_, _, _, _, S, _⟩ => S.seq ha) ?_ ?_⟩
      · rintro i x σ H1 hx ⟨ah, o1, o2, rfl, S, hd⟩
        obtain ⟨⟨d, lv⟩, hxs, q, u, rfl, hq, hu⟩ := paired_get hts hx
        have hi := (List.getElem?_eq_some_iff.mp hxs)
        obtain ⟨hi, hi2⟩ := hi
        have hdrop : xs.drop i = (d, lv) :: xs.drop (i + 1) := by rw [List.drop_eq_getElem_cons hi, hi2]
        rw [hdrop] at hd
        refine ⟨q, _, rfl, same_tup S hq, rfl, _, _, rfl, _, _, rfl, rfl, ?_⟩
        -- the second test, from any heap
        have second : ∀ (ah' : Bool) (H2 : Hp), Same H H2 → ah' = (ah || (decide (lv = .whole) && hitW M d)) →
            (tSeq (tIfS (tAnd (tB (tVar 3)) (tAnd (tTest (tOp rEq (tVar 5) (tC (.str "whole")))) (tB (tCall (spAny false K) [] C8.E0 (tCons (tVar 4) (tCons (tCall (spBoxes K) [] C8.E0 (tCons (tVar 0) (tCons (tC (.str "write")) tNil))) tNil)))))) (tRet (tC (.bl true))) tNext) tNext)
              { nx := fun σ H' => ∃ (ah : Bool) (o1 o2 : Option V), σ = [some v, some (.str (lvS l)), some (.ref a), some (.bl ah), o1, o2] ∧ Same H H' ∧ dueL M xs false = dueL M (xs.drop (i + 1)) ah, rt := Q } [some v, some (.str (lvS l)), some (.ref a), some (.bl ah'), some u, some (.str (lvS lv))] H2 := by
          intro ah' H2 S2 he
          refine ⟨_, rfl, _, rfl, ?_⟩
          cases ah' with
          | false =>
            refine iteF (iteF ⟨false, _, _, rfl, S2, ?_⟩)
            rw [hd, dueL_cons, ← he]; simp
          | true =>
            refine iteT ⟨_, rfl, rfl, _, rfl, ?_⟩
            rw [lv_whole]
            by_cases hl : lv = .whole
            · rw [decide_eq_true hl]
              refine iteT ⟨_, rfl, _, rfl, v, M, true, rfl, hM.mono S2, h8, fun p ns H3 S3 hn hm hlen => ?_⟩
              refine ⟨u, _, d, ns, rfl, (hu.mono S2).mono S3, ⟨p, rfl, hn⟩, by omega, fun H4 S4 => ⟨_, rfl, ?_⟩⟩
              have e1 : ns.any (fun x => decide ((false, x) ∈ d)) = hitR M d := any_same (fun x => by rw [hm, mem_boxesW]) _
              rw [e1]
              cases hR : hitR M d with
              | true =>
                refine iteT ?_
                have : dueL M xs false = true := by rw [hd, dueL_cons, ← he, hR, decide_eq_true hl]; rfl
                have kk := k' H4 ((S2.trans S3).trans S4)
                rw [this] at kk
                exact kk
              | false =>
                refine iteF ⟨true, _, _, rfl, (S2.trans S3).trans S4, ?_⟩
                rw [hd, dueL_cons, ← he, hR]; simp
            · rw [decide_eq_false hl]
              refine iteF (iteF ⟨true, _, _, rfl, S2, ?_⟩)
              rw [hd, dueL_cons, ← he, decide_eq_false hl]; simp
        refine ⟨_, rfl, rfl, _, rfl, ?_⟩
        rw [lv_whole]
        by_cases hl : lv = .whole
        · rw [decide_eq_true hl]
          refine iteT ⟨_, rfl, _, rfl, v, M, false, rfl, hM.mono S, h8, fun p ns H3 S3 hn hm hlen => ?_⟩
          refine ⟨u, _, d, ns, rfl, (hu.mono S).mono S3, ⟨p, rfl, hn⟩, by omega, fun H4 S4 => ⟨_, rfl, ?_⟩⟩
          have e1 : ns.any (fun x => decide ((true, x) ∈ d)) = hitW M d := any_same (fun x => by rw [hm, mem_boxesW]) _
          rw [e1]
          cases hW : hitW M d with
          | true => exact iteT (second true H4 ((S.trans S3).trans S4) (by rw [hW, decide_eq_true hl]; simp))
          | false => exact iteF (second ah H4 ((S.trans S3).trans S4) (by rw [hW]; simp))
        · rw [decide_eq_false hl]
          exact iteF (iteF (second ah H1 S (by rw [decide_eq_false hl]; simp)))
      · rintro σ H1 ⟨ah, o1, o2, rfl, S, hd⟩
        rw [List.drop_eq_nil_of_le (by rw [paired_len hts]; exact Nat.le_refl _)] at hd
        have kk := k' H1 S
        rw [hd] at kk
        exact kk
    · rw [decide_eq_false hw]
      refine iteT ?_
      have := k H (Same.refl H)
      rw [decide_eq_false hw] at this
      exact this
end
end K60

set_option Elab.async false
set_option linter.all false
set_option maxRecDepth 100000
set_option maxHeartbeats 4000000
namespace K60
open PySem L2 PySem.Spec
/-! ### tuples stay, whatever else is written -/
def TupS (H H' : Hp) : Prop := (∀ b xs, H b = some (.tup xs) → H' b = some (.tup xs)) ∧ ∀ b o u, H b = some (.frz o u) → H' b = some (.frz o u)
theorem TupS.of {H H' : Hp} (e : Same H H') : TupS H H' := ⟨fun b _ h => e b _ h, fun b _ _ h => e b _ h⟩
theorem TupS.trans {H H1 H2 : Hp} (a : TupS H H1) (b : TupS H1 H2) : TupS H H2 := ⟨fun c _ h => b.1 c _ (a.1 c _ h), fun c _ _ h => b.2 c _ _ (a.2 c _ _ h)⟩
theorem TupS.set {H : Hp} {l : Addr} {o u : HO} (h : H l = some o) (h1 : ∀ xs, o ≠ .tup xs) (h2 : ∀ z y, o ≠ .frz z y) : TupS H (upd H l u) := by
  refine ⟨fun b xs hb => ?_, fun b z y hb => ?_⟩
  · rw [upd_ne (ne_of hb h (fun e => h1 xs e.symm))]; exact hb
  · rw [upd_ne (ne_of hb h (fun e => h2 z y e.symm))]; exact hb
theorem TupS.lst {H : Hp} {l : Addr} {xs : List V} {u : HO} (h : H l = some (.lst xs)) : TupS H (upd H l u) := TupS.set h (fun _ e => by cases e) (fun _ _ e => by cases e)
theorem TupS.dK {H : Hp} {l : Addr} {xs : List (Key × V)} {u : HO} (h : H l = some (.dK xs)) : TupS H (upd H l u) := TupS.set h (fun _ e => by cases e) (fun _ _ e => by cases e)
theorem TupS.dT {H : Hp} {l : Addr} {xs : List (List Key × V)} {u : HO} (h : H l = some (.dT xs)) : TupS H (upd H l u) := TupS.set h (fun _ e => by cases e) (fun _ _ e => by cases e)
theorem TupS.ins {H : Hp} {l : Addr} {C dx : Addr} {fs : List (Str × V)} {u : HO} (h : H l = some (.ins C dx fs)) : TupS H (upd H l u) := TupS.set h (fun _ e => by cases e) (fun _ _ e => by cases e)
theorem TupS.tup {K : PySem.W.Frag} {H H' : Hp} {a : Addr} {xs : List V} (e : TupS H H') (h : SqT K H a xs) : SqT K H' a xs := by
  rcases h with (h | ⟨o, h⟩) | h
  · exact .inl (.inl (e.1 _ _ h))
  · exact .inl (.inr ⟨o, e.2 _ _ _ h⟩)
  · exact .inr h
theorem StepAt.tmono {K : PySem.W.Frag} {H H' : Hp} (e : TupS H H') {v : V} {s : Stp} : StepAt K H v s → StepAt K H' v s := fun ⟨t, a, b⟩ => ⟨t, a, e.tup b⟩
theorem DealAt.tmono {K : PySem.W.Frag} {H H' : Hp} (e : TupS H H') {v : V} {d : Deal} : DealAt K H v d → DealAt K H' v d := fun ⟨p, vs, a, b, c⟩ => ⟨p, vs, a, e.tup b, Paired.mapP c fun _ _ => StepAt.tmono e⟩
theorem RowAt.tmono {K : PySem.W.Frag} {H H' : Hp} (e : TupS H H') {v : V} {x : Deal × Lv} : RowAt K H v x → RowAt K H' v x := fun ⟨p, u, a, b, c⟩ => ⟨p, u, a, e.tup b, c.tmono e⟩
theorem TieAt.tmono {K : PySem.W.Frag} {H H' : Hp} (e : TupS H H') {v : V} {t : Tie} : TieAt K H v t → TieAt K H' v t := fun ⟨p, a, b⟩ => ⟨p, a, e.tup b⟩
/-! ### fields -/
theorem putF_len (f : Str) (v : V) : ∀ fs : List (Str × V), (putF f v fs).length ≤ fs.length + 1
  | [] => Nat.le_refl _
  | (g, x) :: r => by
    unfold putF
    split
    · simp
    · have := putF_len f v r
      simp only [List.length_cons]; omega
def CutAt (cC : Addr) (H : Hp) (p : Addr) (c a : Int) (l : Addr) : Prop := ∃ dx fs, H p = some (.ins cC dx fs) ∧ fs.lookup ("one" : Str) = some (.int c) ∧ fs.lookup ("at" : Str) = some (.int a) ∧ fs.lookup ("row" : Str) = some (.ref l)
theorem CutAt.mono {cC : Addr} {H H' : Hp} {p : Addr} {c a : Int} {l : Addr} (e : Same H H') : CutAt cC H p c a l → CutAt cC H' p c a l := fun ⟨dx, fs, h, r⟩ => ⟨dx, fs, e _ _ h, r⟩
/-! ### lists of ints as data -/
theorem ints_dp {K : PySem.W.Frag} {H : Hp} : ∀ ns : List Int, DpAll K H (ns.map V.int) (ns.map PyData.int)
  | [] => .nil
  | n :: ns => .cons (.int n) (ints_dp ns)
theorem ints_lay : ∀ ns : List Int, PyData.canLayAll0 (ns.map PyData.int) = true
  | [] => by simp [PyData.canLayAll0]
  | n :: ns => by
    have := ints_lay ns
    simp [PyData.canLayAll0, this, PyData.canLay0]
theorem ints_shaped (ns : List Int) : SeqAt.shaped (.list (ns.map PyData.int)) = true := by
  show (PyData.canLay0 (.list (ns.map PyData.int)) && decide (PyData.depth (.list (ns.map PyData.int)) ≤ 64)) = true
  have h2 : PyData.depth (.list (ns.map PyData.int)) ≤ 64 := by simp only [PyData.depth, PySem.W.depth_ints]; omega
  rw [decide_eq_true h2, Bool.and_true]
  simp only [PyData.canLay0]; exact ints_lay ns
theorem nil_shaped : SeqAt.shaped (.list []) = true := ints_shaped []
theorem eqv_nil {ns : List Int} (h : ns ≠ []) : PyData.eqv (.list (ns.map PyData.int)) (.list []) = false := by
  cases ns with
  | nil => exact absurd rfl h
  | cons n ns => simp [PyData.eqv, PyData.eqvAll]
theorem eqv_nil0 : PyData.eqv (.list []) (.list []) = true := by simp [PyData.eqv, PyData.eqvAll]
theorem inV_ints (x : Int) (ns : List Int) : inV (.int x) (ns.map V.int) = decide (x ∈ ns) := by
  unfold inV
  rw [List.any_map]
  induction ns with
  | nil => rfl
  | cons n ns ih =>
    rw [List.any_cons, ih]
    have e : (((fun y => eqV y (V.int x)) ∘ V.int) n) = decide (n = x) := rfl
    rw [e]
    by_cases h : n = x
    · subst h; simp
    · have : ¬ x = n := fun z => h z.symm
      simp [h, this]
theorem flat_ints (ns : List Int) : (ns.map V.int).all flatV = true := by
  rw [List.all_eq_true]
  intro x hx
  obtain ⟨n, _, rfl⟩ := List.mem_map.mp hx
  rfl
/-- a comprehension over zip(xs, ys): the pair is a new tuple at T -/
theorem lc_zip {K : PySem.W.Frag} {a b : Addr} {xs ys : List V} {g : TG} {tt : TT} {te : TE} {vs : List Nat} {σ : L2.St} {H1 : Hp} {D : Addr} {Qd : Hp → Prop} (Pv : Nat → Hp → Prop) (h0 : Pv 0 (upd H1 D (.lst [])))
    (hl : ∀ i H, Pv i H → SqL K H a xs ∧ SqL K H b ys)
    (hs : ∀ i x y T H, xs[i]? = some x → ys[i]? = some y → Pv i H → H T = none → g (.ref T) (wipe σ vs) (upd H T (.tup [x, y])) fun σ2 H2 => wipe σ2 vs = wipe σ vs ∧ tt σ2 H2 fun b H3 =>
      if b = true then te σ2 H3 fun y H4 => ∃ acc, H4 D = some (.lst acc) ∧ acc.length < sizeLine ∧ Pv (i + 1) (upd H4 D (.lst (acc ++ [y]))) else Pv (i + 1) H3) (hd : ∀ H, Pv (min xs.length ys.length) H → Qd H) :
    ∃ W : Nat → Nat → Hp → Prop, (∃ m, W 0 m (upd H1 D (.lst []))) ∧ ∀ i m H, W i m H →
      ((Itz K a b).stop i H ∧ Qd H) ∨ ((Itz K a b).go i H ∧ ∃ Nx : Hp → Prop, (∀ H', Nx H' → ∃ m', m' < m ∧ W (i + 1) m' H') ∧ ∀ x H', (Itz K a b).yld i H x H' → g x (wipe σ vs) H' fun σ2 H2 => wipe σ2 vs = wipe σ vs ∧ tt σ2 H2 fun b H3 =>
        if b = true then te σ2 H3 fun y H4 => ∃ acc, H4 D = some (.lst acc) ∧ acc.length < sizeLine ∧ Nx (upd H4 D (.lst (acc ++ [y]))) else Nx H3) := by
  refine ⟨fun i m H => m = min xs.length ys.length - i ∧ i ≤ min xs.length ys.length ∧ Pv i H, ⟨_, rfl, Nat.zero_le _, h0⟩, ?_⟩
  rintro i m H ⟨rfl, hi, p⟩
  obtain ⟨qa, qb⟩ := hl i H p
  by_cases hlt : i < min xs.length ys.length
  · have h1 : i < xs.length := by omega
    have h2 : i < ys.length := by omega
    refine .inr ⟨⟨xs, ys, xs[i], ys[i], qa, qb, List.getElem?_eq_getElem h1, List.getElem?_eq_getElem h2⟩, Pv (i + 1), fun H' p' => ⟨min xs.length ys.length - (i + 1), by omega, rfl, hlt, p'⟩, fun x H' z => ?_⟩
    obtain ⟨T, u, v, rfl, hT, rfl, z1, z2⟩ := z
    exact hs i u v T H (z1 xs qa) (z2 ys qb) p hT
  · have e : i = min xs.length ys.length := by omega
    subst e
    exact .inl ⟨⟨xs, ys, qa, qb, by omega⟩, hd H p⟩
def dlOf (ds : List Deal) (i : Int) : Deal := (ds[i.toNat]?).getD []
def lvOf (ls : List Lv) (i : Int) : Lv := (ls[i.toNat]?).getD .lax
theorem dl_at {K : PySem.W.Frag} {H : Hp} {us : List V} {ds : List Deal} (h : Paired (DealAt K H) us ds) {i : Int} (h0 : 0 ≤ i) (h1 : i < ds.length) : ∃ u, atI us i = some u ∧ DealAt K H u (dlOf ds i) := by
  obtain ⟨j, rfl⟩ := Int.eq_ofNat_of_zero_le h0
  have hj : j < ds.length := by omega
  obtain ⟨u, hu, hd⟩ := paired_get' h (List.getElem?_eq_getElem hj)
  refine ⟨u, atI_nat hu, ?_⟩
  unfold dlOf
  rw [Int.toNat_natCast, List.getElem?_eq_getElem hj]
  exact hd
theorem lv_at {ls : List Lv} {i : Int} (h0 : 0 ≤ i) (h1 : i < ls.length) : atI (ls.map fun l => V.str (lvS l)) i = some (.str (lvS (lvOf ls i))) := by
  obtain ⟨j, rfl⟩ := Int.eq_ofNat_of_zero_le h0
  have hj : j < ls.length := by omega
  refine atI_nat ?_
  unfold lvOf
  rw [List.getElem?_map, Int.toNat_natCast, List.getElem?_eq_getElem hj]; rfl
section
variable {P : Program} {w : World} {K : PySem.W.Frag} {mg : Str → Option Value} {base : Heap} {cC cE cR : Addr}
def spCutInit (K : PySem.W.Frag) (cC : Addr) : Sp := fun vs H Q _ => ∃ (p dx r : Addr) (c a : Int) (ns : List Int), vs = [.ref p, .int c, .int a, .ref r] ∧ H p = some (.ins cC dx []) ∧ SqL K H r (ns.map V.int) ∧
  ∀ (l : Addr) (H' : Hp), H l = none → CutAt cC H' p c a l → SqL K H' l (ns.map V.int) → (∀ b o, H b = some o → b ≠ p → H' b = some o) → Q .non H'
theorem ok_Cut_init {f : Addr} {fd : FuncData} (F : Fun K "__init__" "Cut.__init__" sCut_init f fd) (T : Facts K mg cC cE cR) : FnOk P w K mg base CX0 1 f fd ["self", "one", "at", "row"] (spCutInit K cC) := by
  refine F.ok sc_Cut_init (fun vs H Q E h => ?_) (fun cdv A outer s H vs Q E hr h => ?_)
  · obtain ⟨p, dx, r, c, a, ns, rfl, _⟩ := h; rfl
  · obtain ⟨p, dx, r, c, a, ns, rfl, hp, hR, k⟩ := h
    refine ⟨_, pss_cons (ps_fld (pv 0) (pv 1) rfl) (pss_cons (ps_fld (pv 0) (pv 2) rfl)
      (pss_one (ps_fld (pv 0) (pe_ifExp (pt_val (pe_callB call_isi (by rfl) T.z_isinstance (by decide +kernel) (pa_cons (pv 3) (pa_cons (pe_bltn (v := .ty "list") (by rfl) T.z_list (by decide +kernel) rfl) pa_nil))))
        (pe_callTy call_list_of (by rfl) T.z_list (by decide +kernel) (pa_cons (pv 3) pa_nil)) (pv 3)) rfl))), ?_⟩
    have keepR : ∀ o o', SqL K (upd (upd H p (.ins cC dx o)) p (.ins cC dx o')) r (ns.map V.int) := by
      intro o o'
      rcases hR with (h | ⟨z, h⟩) | h
      · have n : r ≠ p := ne_of h hp (by intro q; cases q)
        exact .inl (.inl (by rw [upd_ne n, upd_ne n]; exact h))
      · have n : r ≠ p := ne_of h hp (by intro q; cases q)
        exact .inl (.inr ⟨z, by rw [upd_ne n, upd_ne n]; exact h⟩)
      · exact .inr h
    refine ⟨_, rfl, _, rfl, p, cC, dx, [], rfl, hp, T.clCut, T.nCut_one, (by show 0 < 1000; decide), ?_⟩
    refine ⟨_, rfl, _, rfl, p, cC, dx, _, rfl, upd_same, T.clCut, T.nCut_at, (by show 1 < 1000; decide), ?_⟩
    have hR2 := keepR (putF "one" (.int c) []) (putF "at" (.int a) (putF "one" (.int c) []))
    refine ⟨_, rfl, _, _, _, _, true, rfl, .ty "list", SqL_ty hR2, kit_ty (by decide +kernel), true, rfl, iteT ?_⟩
    refine ⟨_, rfl, r, _, rfl, .inl hR2, fun l hl => ?_⟩
    have npl : p ≠ l := fun e => by rw [← e, upd_same] at hl; cases hl
    have hl0 : H l = none := by rw [upd_ne npl.symm, upd_ne npl.symm] at hl; exact hl
    refine ⟨_, rfl, p, cC, dx, _, rfl, (by rw [upd_ne npl]; exact upd_same), T.clCut, T.nCut_row, ?_, ?_⟩
    · have h1 := putF_len "at" (.int a) (putF "one" (.int c) [])
      have h2 := putF_len "one" (.int c) []
      simp only [List.length_nil] at h2
      omega
    · refine k l _ hl0 ⟨dx, _, upd_same, ?_, ?_, ?_⟩ ?_ ?_
      · rw [lookup_putF, if_neg (by decide +kernel), lookup_putF, if_neg (by decide +kernel), lookup_putF, if_pos rfl]
      · rw [lookup_putF, if_neg (by decide +kernel), lookup_putF, if_pos rfl]
      · rw [lookup_putF, if_pos rfl]
      · exact SqL.of (by rw [upd_ne npl.symm]; exact upd_same)
      · intro b o hb n
        rw [upd_ne n, upd_ne (ne_of_none hb hl0), upd_ne n, upd_ne n]
        exact hb
theorem kit_self (K : PySem.W.Frag) (a : Addr) : PySem.W.kitOne K (.ref a) (.ref a) = some true := by
  unfold PySem.W.kitOne
  simp
structure CutPre (ds : List Deal) (c : Int) (a : Nat) (rs : List Int) : Prop where
  nd : (c :: rs).Nodup
  rng : ∀ m ∈ c :: rs, 0 ≤ m ∧ m < ds.length
  at_ : a < (dlOf ds c).length
  ne : rs ≠ []
def spIsCut (K : PySem.W.Frag) (cC : Addr) : Sp := fun vs H Q _ => ∃ (v : V) (p l : Addr) (ds : List Deal) (c : Int) (a : Nat) (rs : List Int), vs = [v, .ref p] ∧ DealsAt K H v ds ∧ CutAt cC H p c a l ∧ SqL K H l (rs.map V.int) ∧ CutPre ds c a rs ∧
  ∀ H', Same H H' → Q (.bl true) H'
theorem ok_is_cut {f : Addr} {fd : FuncData} (F : Fun K "is_cut" "is_cut" s_is_cut f fd) (T : Facts K mg cC cE cR) (c1 : C8.Cal P w K mg base 1 "is_from" spFrom []) (c2 : C8.Cal P w K mg base 2 "is_number_dealings" (spNumber K) []) :
    FnOk P w K mg base CX0 3 f fd ["dealings", "thing"] (spIsCut K cC) := by
  refine F.ok sc_is_cut (fun vs H Q E h => ?_) (fun cdv A outer s H vs Q E hr h => ?_)
  · obtain ⟨v, p, l, ds, c, a, rs, rfl, _⟩ := h; rfl
  · obtain ⟨v, p, l, ds, c, a, rs, rfl, hD, hC, hL, ⟨hnd, hrng, hat, hne⟩, k⟩ := h
    obtain ⟨pd, us, rfl, hpd, hus⟩ := id hD
    obtain ⟨dx, fs, hp, f1, f2, f3⟩ := id hC
    have hc := hrng c List.mem_cons_self
    obtain ⟨u, hu, hdu⟩ := dl_at hus hc.1 hc.2
    obtain ⟨pm, um, rfl, hpm, hum⟩ := id hdu
    have hml := paired_len hum
    refine ⟨_, pss_cons (ps_if (PW.pt (pw_or (pt_not (pt_val (pe_callB call_isi (by rfl) T.z_isinstance (by decide +kernel) (pa_cons (pv 1) (pa_cons (pe_glob rfl T.mgCut (v := .ref cC) rfl) pa_nil)))))
        (pw_or1 (pt_not (pt_val (C8.pe_c c2 hr (by decide) rfl (pa_cons (pv 0) (pa_cons (pe_fld (pv 1) rfl) pa_nil)))))))) (pss_one (ps_ret pe_bl)) pss_nil)
      (pss_cons (ps_if (PW.pt (pw_or (pt_not (pt_val (C8.pe_c c1 hr (by decide) rfl (pa_cons (pe_fld (pv 1) rfl) (pa_cons pe_int (pa_cons (pe_op op_sub (pe_callB call_len_seq (by rfl) T.z_len PySem.boot_len (pa_cons (pe_ix ix_list (pv 0) (pe_fld (pv 1) rfl) (fun _ _ => rfl)) pa_nil)) pe_int) pa_nil))))))
        (pw_or1 (pt_not (pt_val (pe_callB call_isi (by rfl) T.z_isinstance (by decide +kernel) (pa_cons (pe_fld (pv 1) rfl) (pa_cons (pe_bltn (v := .ty "list") (by rfl) T.z_list (by decide +kernel) rfl) pa_nil)))))))) (pss_one (ps_ret pe_bl)) pss_nil)
      (pss_cons (ps_for PassesOwn.never rfl (pi_enum (by rfl) T.z_enumerate (pa_cons (pe_fld (pv 1) rfl) pa_nil)) (pg_tup rfl (pgs_cons (pg_name (i := 2) sc_is_cut.nd rfl (Or.inl rfl)) (pgs_cons (pg_name (i := 3) sc_is_cut.nd rfl (Or.inl rfl)) pgs_nil)))
        (pss_one (ps_if (PW.pt (pw_or (pt_not (pt_val (C8.pe_c c2 hr (by decide) rfl (pa_cons (pv 0) (pa_cons (pv 3) pa_nil))))) (pw_or (pt_cmpR op_eq (pv 3) (pe_fld (pv 1) rfl) (nomark _))
          (pw_or1 (pt_cmpR op_in_seq (pv 3) (pe_slice sl_list (pe_fld (pv 1) rfl) po_none (po_some (pv 2))) (by rfl)))))) (pss_one (ps_ret pe_bl)) pss_nil)))
      (pss_one (ps_ret (pe_cmpR (op_neD hr.units) (pe_fld (pv 1) rfl) (pe_lst pa_nil) (nomark _)))))), ?_⟩
    refine ⟨_, rfl, _, _, _, _, true, rfl, .own cC, .base (.ins hp T.clCut T.insA T.insB T.insC T.insD), kit_self K cC, true, rfl, iteF ?_⟩
    refine ⟨_, rfl, _, rfl, p, cC, dx, fs, _, rfl, hp, T.clCut, T.nCut_one, f1, _, ds, c, rfl, hD, hc.1, hc.2, true, rfl, iteF ?_⟩
    refine ⟨_, rfl, p, cC, dx, fs, _, rfl, hp, T.clCut, T.nCut_at, f2, _, rfl, _, rfl, p, cC, dx, fs, _, rfl, hp, T.clCut, T.nCut_one, f1, pd, us, c, _, rfl, rfl, hpd, hu, pm, um, rfl, .inr hpm, _, _, rfl, rfl, _, _, _, rfl, by omega, by omega, true, rfl, iteF ?_⟩
    refine ⟨_, rfl, p, cC, dx, fs, _, rfl, hp, T.clCut, T.nCut_row, f3, _, _, _, _, true, rfl, .ty "list", SqL_ty hL, kit_ty (by decide +kernel), true, rfl, iteF ?_⟩
    refine ⟨_, rfl, p, cC, dx, fs, _, rfl, hp, T.clCut, T.nCut_row, f3, l, _, rfl, hL, for_enum (K := K) (a := l) (xs := rs.map V.int) (fun i σ H' => ∃ o1 o2, σ = [some (.ref pd), some (.ref p), o1, o2] ∧ Same H H')
      ⟨none, none, rfl, Same.refl H⟩ (fun i σ H' _ ⟨_, _, _, S⟩ => S.seq hL) ?_ ?_⟩
    · rintro i y σ H1 t hy ⟨o1, o2, rfl, S⟩ ht
      obtain ⟨x, hx, rfl⟩ := ints_get hy
      have hxm := List.mem_of_getElem? hx
      have hxr := hrng x (List.mem_cons_of_mem _ hxm)
      have S1 : Same H (upd H1 t (.tup [.int (i : Nat), .int x])) := S.trans (same_new ht)
      have hp1 := S1 _ _ hp
      refine ⟨t, _, rfl, SqT.of upd_same, rfl, _, _, rfl, _, _, rfl, rfl, ?_⟩
      refine ⟨_, rfl, _, rfl, _, ds, x, rfl, hD.mono S1, hxr.1, hxr.2, true, rfl, iteF ?_⟩
      have hxc : ¬ x = c := fun e => (List.nodup_cons.mp hnd).1 (e ▸ hxm)
      refine ⟨_, rfl, _, rfl, p, cC, dx, fs, _, rfl, hp1, T.clCut, T.nCut_one, f1, rfl, _, rfl, ?_⟩
      rw [decide_eq_false (by intro z; cases z; exact hxc rfl)]
      refine iteF ⟨_, rfl, _, rfl, p, cC, dx, fs, _, rfl, hp1, T.clCut, T.nCut_row, f3, _, rfl, i, rfl, l, _, rfl, S1.seq hL, fun q hq => ?_⟩
      refine ⟨q, _, rfl, .inl (SqL.of upd_same), rfl, ?_, false, ?_, iteF ?_⟩
      · rw [cut_to, ← List.map_take]; exact flat_ints _
      · rw [cut_to, ← List.map_take]
        show V.bl (inV _ _) = _
        rw [inV_ints]
        refine congrArg V.bl (decide_eq_false fun hm => ?_)
        obtain ⟨j, hj, hj2⟩ := List.getElem_of_mem hm
        rw [List.length_take] at hj
        rw [List.getElem_take] at hj2
        have hi := (List.getElem?_eq_some_iff.mp hx).1
        have e1 : rs[j]? = rs[i]? := by rw [hx, List.getElem?_eq_getElem (by omega), hj2]
        have := (List.getElem?_inj (by omega) (List.nodup_cons.mp hnd).2).mp e1
        omega
      · exact ⟨_, _, rfl, S1.trans (same_new hq)⟩
    · rintro σ H1 ⟨o1, o2, rfl, S⟩
      refine ⟨_, rfl, p, cC, dx, fs, _, rfl, S _ _ hp, T.clCut, T.nCut_row, f3, Nat.zero_le _, fun q hq => ?_⟩
      refine ⟨_, _, .lst ((S.trans (same_new hq)).seq hL) (ints_dp rs), .lst (SqL.of upd_same) .nil, ints_shaped rs, nil_shaped, ?_⟩
      rw [eqv_nil hne]
      exact k _ (S.trans (same_new hq))
end
end K60

set_option Elab.async false
set_option linter.all false
set_option maxRecDepth 100000
set_option maxHeartbeats 8000000
namespace K60
open PySem L2 PySem.Spec
theorem falses_snoc (i : Nat) : (List.replicate i false).map V.bl ++ [V.bl false] = (List.replicate (i + 1) false).map V.bl := by
  rw [List.replicate_succ', List.map_append]; rfl
theorem any_falses (i : Nat) : (List.replicate i false).any id = false := by
  rw [List.any_eq_false]; intro x hx; rw [List.eq_of_mem_replicate hx]; decide
/-- what a cut without another fault is, but for «barred» -/
structure CutFine (ds : List Deal) (ls : List Lv) (c : Int) (a : Nat) (rs : List Int) (box : Int) : Prop where
  pre : CutPre ds c a rs
  ok : DsOk ds
  len : ls.length = ds.length
  few : rs.length ≤ 100
  read : (dlOf ds c)[a]? = some (false, box)
  first : ∀ r, rs[0]? = some r → (true, box) ∈ dlOf ds r
  apart : ∀ r ∈ rs, ∀ x, (true, x) ∈ dlOf ds c → (true, x) ∉ dlOf ds r
  chain : ∀ (i : Nat) q r, rs[i]? = some q → rs[i + 1]? = some r → ∃ s ∈ dlOf ds q, clash (dlOf ds r) s = true
  close : ∀ r, rs.getLast? = some r → ∃ x, (true, x) ∈ dlOf ds c ∧ (false, x) ∈ dlOf ds r
def faultOf (ds : List Deal) (ls : List Lv) (c : Int) (rs : List Int) : V :=
  if (decide (lvOf ls c = .whole) && dueL (dlOf ds c) (rs.map fun r => (dlOf ds r, lvOf ls r)) false) = true then .str "barred" else .non
section
variable {P : Program} {w : World} {K : PySem.W.Frag} {mg : Str → Option Value} {base : Heap} {cC cE cR : Addr}
def spCutFault (K : PySem.W.Frag) (cC : Addr) : Sp := fun vs H Q _ => ∃ (v u : V) (p l : Addr) (ds : List Deal) (ls : List Lv) (c : Int) (a : Nat) (rs : List Int) (b : Int), vs = [v, u, .ref p] ∧ DealsAt K H v ds ∧ LvsAt K H u ls ∧ CutAt cC H p c a l ∧ SqL K H l (rs.map V.int) ∧ CutFine ds ls c a rs b ∧
  ∀ H', Same H H' → Q (faultOf ds ls c rs) H'
theorem atI_neg1 {α : Type} {xs : List α} {v : α} (h : xs.getLast? = some v) : atI xs (-1) = some v := by
  obtain ⟨ys, rfl⟩ := List.getLast?_eq_some_iff.mp h
  exact atI_last ys v
theorem paired_last {α β : Type} {F : α → β → Prop} {l : List α} {m : List β} (h : Paired F l m) {y : β} (e : m.getLast? = some y) : ∃ x, l.getLast? = some x ∧ F x y := by
  rw [List.getLast?_eq_getElem?] at e
  obtain ⟨x, hx, hf⟩ := paired_get' h e
  refine ⟨x, ?_, hf⟩
  rw [List.getLast?_eq_getElem?, paired_len h]
  exact hx
theorem rows_get {ds : List Deal} {rs : List Int} {i : Nat} {d : Deal} (h : (rs.map (dlOf ds))[i]? = some d) : ∃ r, rs[i]? = some r ∧ d = dlOf ds r := by
  rw [List.getElem?_map] at h
  cases e : rs[i]? with
  | none => rw [e] at h; cases h
  | some x => rw [e] at h; exact ⟨x, rfl, (Option.some.inj h).symm⟩
theorem ok_cut_fault {f : Addr} {fd : FuncData} (F : Fun K "cut_fault" "cut_fault" s_cut_fault f fd) (T : Facts K mg cC cE cR) (c1 : C8.Cal P w K mg base 7 "sure_levels" (spSureL K) []) (c2 : C8.Cal P w K mg base 3 "is_cut" (spIsCut K cC) [])
    (c3 : C8.Cal P w K mg base 1 "writes_any" (spAny true K) []) (c4 : C8.Cal P w K mg base 2 "kept_apart" (spKept K) []) (c5 : C8.Cal P w K mg base 1 "meeting" (spMeeting K) []) (c6 : C8.Cal P w K mg base 2 "closes" (spCloses K) [])
    (c7 : C8.Cal P w K mg base 2 "is_barred" (spIsBarred K) []) : FnOk P w K mg base CX0 8 f fd ["dealings", "levels", "cut"] (spCutFault K cC) := by
  refine F.ok sc_cut_fault (fun vs H Q E h => ?_) (fun cdv A outer s H vs Q E hr h => ?_)
  · obtain ⟨v, u, p, l, ds, ls, c, a, rs, b, rfl, _⟩ := h; rfl
  · obtain ⟨v, u, p, l, ds, ls, c, a, rs, b, rfl, hD, hL, hC, hR, X, k⟩ := h
    have hu65 := hu65_of hr
    have nd := sc_cut_fault.nd
    refine ⟨_, pss_cons (ps_expr (C8.pe_c c1 hr (by decide) rfl (pa_cons (pv 0) (pa_cons (pv 1) pa_nil))))
      (pss_cons (ps_if (pt_not (pt_val (C8.pe_c c2 hr (by decide) rfl (pa_cons (pv 0) (pa_cons (pv 2) pa_nil))))) (pss_one (ps_ret pe_str)) pss_nil)
      (pss_cons (ps_set (i := 3) nd rfl (Or.inr rfl) (pe_ix ix_list (pv 0) (pe_fld (pv 2) rfl) (fun _ _ => rfl)))
      (pss_cons (ps_set (i := 4) nd rfl (Or.inr rfl) (pe_ix ix_list (pv 1) (pe_fld (pv 2) rfl) (fun _ _ => rfl)))
      (pss_cons (ps_asg (pe_ix ix_tup (pv 3) (pe_fld (pv 2) rfl) (fun _ _ => rfl)) (pg_tup (by rfl) (pgs_cons (pg_name (i := 5) nd rfl (Or.inl rfl)) (pgs_cons (pg_name (i := 6) nd rfl (Or.inl rfl)) pgs_nil))))
      (pss_cons (ps_setLc (i := 7) (own := [("number", 8)]) (g := gName 8) (tt := tYes) (te := tOp (rIxL K) (tVar 0) (tVar 8)) rfl nd rfl rfl (sw_true rfl rfl rfl (by decide +kernel)) (pi_list (pe_fld (pv 2) rfl)) (blkOk_by (own := [("number", 8)]) (N := ["dealings", "levels", "cut", "one", "level", "word", "box", "row", "number", "dealing", "ahead"]) (sc := defScope s_cut_fault) (by decide +kernel))
          (fun _ _ _ _ _ => pg_name (i := 8) nd rfl (Or.inl rfl)) (fun _ _ _ _ _ => pts_nil) (fun _ _ _ _ _ => pe_ix ix_list (pv 0) (pv 8) (fun _ _ => rfl)))
      (pss_cons (ps_if (pt_cmpR op_ne (pv 5) pe_str (nomark _)) (pss_one (ps_ret pe_str)) pss_nil)
      (pss_cons (ps_if (pt_cmpR (op_notInDT hu65) (pe_tup (pa_cons pe_str (pa_cons (pv 6) pa_nil))) (pe_ix ix_list (pv 7) pe_int (fun _ _ => rfl)) (by rfl)) (pss_one (ps_ret pe_str)) pss_nil)
      (pss_cons (ps_if (pt_val (pe_callB (cr_any rfl) (by rfl) T.z_any (by decide +kernel) (pa_cons
          (pe_lc (own := [("dealing", 9)]) (g := gName 9) (tt := tYes) (te := tCall (spAny true K) [] C8.E0 (tCons (tVar 9) (tCons (tCall (spKept K) [] C8.E0 (tCons (tVar 3) (tCons (tFld K (tVar 2) "at") (tCons (tC (.str "lax")) tNil)))) tNil))) rfl nd (pi_list (pv 7)) (blkOk_by (own := [("dealing", 9)]) (N := ["dealings", "levels", "cut", "one", "level", "word", "box", "row", "number", "dealing", "ahead"]) (sc := defScope s_cut_fault) (by decide +kernel))
            (fun _ _ _ _ _ => pg_name (i := 9) nd rfl (Or.inl rfl)) (fun _ _ _ _ _ => pts_nil) (fun _ _ _ _ _ => C8.pe_c c3 hr (by decide) rfl (pa_cons (pv 9) (pa_cons (C8.pe_c c4 hr (by decide) rfl (pa_cons (pv 3) (pa_cons (pe_fld (pv 2) rfl) (pa_cons pe_str pa_nil)))) pa_nil)))) pa_nil))) (pss_one (ps_ret pe_str)) pss_nil)
      (pss_cons (ps_if (pt_val (pe_callB (cr_any rfl) (by rfl) T.z_any (by decide +kernel) (pa_cons
          (pe_lc (own := [("dealing", 9)]) (g := gName 9) (tt := tYes) (te := tCall (spAny true K) [] C8.E0 (tCons (tVar 9) (tCons (tCall (spKept K) [] C8.E0 (tCons (tVar 3) (tCons (tFld K (tVar 2) "at") (tCons (tVar 4) tNil)))) tNil))) rfl nd (pi_list (pv 7)) (blkOk_by (own := [("dealing", 9)]) (N := ["dealings", "levels", "cut", "one", "level", "word", "box", "row", "number", "dealing", "ahead"]) (sc := defScope s_cut_fault) (by decide +kernel))
            (fun _ _ _ _ _ => pg_name (i := 9) nd rfl (Or.inl rfl)) (fun _ _ _ _ _ => pts_nil) (fun _ _ _ _ _ => C8.pe_c c3 hr (by decide) rfl (pa_cons (pv 9) (pa_cons (C8.pe_c c4 hr (by decide) rfl (pa_cons (pv 3) (pa_cons (pe_fld (pv 2) rfl) (pa_cons (pv 4) pa_nil)))) pa_nil)))) pa_nil))) (pss_one (ps_ret pe_str)) pss_nil)
      (pss_cons (ps_if (pt_val (pe_callB (cr_any rfl) (by rfl) T.z_any (by decide +kernel) (pa_cons
          (pe_lc (own := [("ahead", 10), ("dealing", 9)]) (g := gTup K 2 (gCons (gName 10) (gCons (gName 9) gNil))) (tt := tYes) (te := tOp (rEqD K) (tCall (spMeeting K) [] C8.E0 (tCons (tVar 10) (tCons (tVar 9) tNil))) (tLst tNil)) rfl nd (pi_zip (by rfl) T.z_zip (pa_cons (pv 7) (pa_cons (pe_slice sl_list (pv 7) (po_some pe_int) po_none) pa_nil)))
            (blkOk_by (own := [("ahead", 10), ("dealing", 9)]) (N := ["dealings", "levels", "cut", "one", "level", "word", "box", "row", "number", "dealing", "ahead"]) (sc := defScope s_cut_fault) (by decide +kernel))
            (fun _ _ _ _ _ => pg_tup (by rfl) (pgs_cons (pg_name (i := 10) nd rfl (Or.inl rfl)) (pgs_cons (pg_name (i := 9) nd rfl (Or.inl rfl)) pgs_nil))) (fun _ _ _ _ _ => pts_nil) (fun _ _ _ _ _ => pe_cmpR (op_eqD hr.units) (C8.pe_c c5 hr (by decide) rfl (pa_cons (pv 10) (pa_cons (pv 9) pa_nil))) (pe_lst pa_nil) (nomark _))) pa_nil))) (pss_one (ps_ret pe_str)) pss_nil)
      (pss_cons (ps_if (pt_not (pt_val (C8.pe_c c6 hr (by decide) rfl (pa_cons (pv 3) (pa_cons (pe_fld (pv 2) rfl) (pa_cons (pv 4) (pa_cons (pe_ix ix_list (pv 7) (pe_un un_neg pe_int) (fun _ _ => rfl)) pa_nil))))))) (pss_one (ps_ret pe_str)) pss_nil)
      (pss_cons (ps_if (pt_val (C8.pe_c c7 hr (by decide) rfl (pa_cons (pv 3) (pa_cons (pv 4) (pa_cons
          (pe_lc (own := [("number", 8)]) (g := gName 8) (tt := tYes) (te := tTup (tCons (tOp (rIxL K) (tVar 0) (tVar 8)) (tCons (tOp (rIxL K) (tVar 1) (tVar 8)) tNil))) rfl nd (pi_list (pe_fld (pv 2) rfl)) (blkOk_by (own := [("number", 8)]) (N := ["dealings", "levels", "cut", "one", "level", "word", "box", "row", "number", "dealing", "ahead"]) (sc := defScope s_cut_fault) (by decide +kernel))
            (fun _ _ _ _ _ => pg_name (i := 8) nd rfl (Or.inl rfl)) (fun _ _ _ _ _ => pts_nil) (fun _ _ _ _ _ => pe_tup (pa_cons (pe_ix ix_list (pv 0) (pv 8) (fun _ _ => rfl)) (pa_cons (pe_ix ix_list (pv 1) (pv 8) (fun _ _ => rfl)) pa_nil)))) pa_nil))))) (pss_one (ps_ret pe_str)) pss_nil)
      (pss_one (ps_ret pe_non)))))))))))))), ?_⟩
    have pre := X.pre
    have okD := X.ok
    have few := X.few
    have hc := pre.rng c List.mem_cons_self
    refine ⟨_, rfl, _, rfl, v, u, ds, ls, rfl, hD, hL, okD, X.len, fun H1 S1 => ?_⟩
    refine ⟨_, rfl, _, rfl, v, p, l, ds, c, a, rs, rfl, hD.mono S1, hC.mono S1, S1.seq hR, pre, fun H2 S2 => ⟨true, rfl, iteF ?_⟩⟩
    have S02 := S1.trans S2
    obtain ⟨pd, us, rfl, hpd, hus⟩ := hD.mono S02
    obtain ⟨al, rfl, hal⟩ := hL.mono S02
    obtain ⟨dx, fs, hp, f1, f2, f3⟩ := hC.mono S02
    have hR2 := S02.seq hR
    obtain ⟨uM, huM, hM⟩ := dl_at hus hc.1 hc.2
    obtain ⟨pm, um, rfl, hpm, hum⟩ := id hM
    obtain ⟨vs0, hvs0, q0, rfl, hq0⟩ := paired_get' hum X.read
    have h8 : (dlOf ds c).length ≤ 8 := by
      have : dlOf ds c ∈ ds := by
        obtain ⟨j, rfl⟩ := Int.eq_ofNat_of_zero_le hc.1
        unfold dlOf
        rw [Int.toNat_natCast, List.getElem?_eq_getElem (by omega)]
        exact List.getElem_mem _
      exact (okD.2.2 _ this).2.1
    refine ⟨_, rfl, _, rfl, p, cC, dx, fs, _, rfl, hp, T.clCut, T.nCut_one, f1, pd, us, c, _, rfl, rfl, hpd, huM, ?_⟩
    refine ⟨_, rfl, _, rfl, p, cC, dx, fs, _, rfl, hp, T.clCut, T.nCut_one, f1, al, _, c, _, rfl, rfl, hal, lv_at hc.1 (by rw [X.len]; exact hc.2), ?_⟩
    refine ⟨_, rfl, _, rfl, p, cC, dx, fs, _, rfl, hp, T.clCut, T.nCut_at, f2, pm, um, a, _, rfl, rfl, hpm, atI_nat hvs0, q0, _, rfl, hq0, rfl, _, _, rfl, _, _, rfl, rfl, ?_⟩
    -- row
    refine ⟨_, rfl, p, cC, dx, fs, _, rfl, hp, T.clCut, T.nCut_row, f3, l, rfl, ⟨_, hR2⟩, fun D hD0 => lc_list (K := K) (a := l) (xs := rs.map V.int) (fun i H' => Same H2 H' ∧ ∃ acc, H' D = some (.lst acc) ∧ Paired (DealAt K H2) acc ((rs.take i).map (dlOf ds)))
      ⟨same_new hD0, [], upd_same, by simp; exact .nil⟩ (fun i H' _ ⟨S, _⟩ => S.seq hR2) ?_ ?_⟩
    · rintro i y H3 hy ⟨S3, acc, h3, hacc⟩
      obtain ⟨x, hx, rfl⟩ := ints_get hy
      have hxr := pre.rng x (List.mem_cons_of_mem _ (List.mem_of_getElem? hx))
      obtain ⟨u', hu', hd'⟩ := dl_at hus hxr.1 hxr.2
      have hal := paired_len hacc
      rw [List.length_map, List.length_take] at hal
      refine ⟨rfl, yesT ⟨_, rfl, _, rfl, pd, us, x, _, rfl, rfl, S3.seq hpd, hu', acc, h3, small1000 (by omega), same_upd S3 hD0, acc ++ [u'], upd_same, ?_⟩⟩
      rw [List.take_add_one, hx, List.map_append]
      exact paired_snoc hacc hd'
    rintro H3 ⟨S3, acc, h3, hacc⟩
    rw [List.length_map, List.take_length] at hacc
    have S03 := S02.trans S3
    have hacl := paired_len hacc
    rw [List.length_map] at hacl
    have hp3 := S3 _ _ hp
    have hM3 : DealAt K H3 (.ref pm) (dlOf ds c) := hM.mono S3
    -- word is read
    refine ⟨_, rfl, rfl, _, rfl, ?_⟩
    rw [wd_read]
    refine iteF ?_
    -- the first one writes the box
    obtain ⟨r0, hr0⟩ : ∃ r0, rs[0]? = some r0 := ⟨_, List.getElem?_eq_getElem (List.length_pos_iff.mpr pre.ne)⟩
    obtain ⟨w0, hw0, hw0d⟩ := paired_get' (i := 0) hacc (by rw [List.getElem?_map, hr0]; rfl)
    refine ⟨_, rfl, (by show 2 ≤ sizeLine; decide), fun t ht => ⟨_, rfl, D, acc, 0, _, rfl, rfl, SqL.of ((same_new ht) _ _ h3), atI_nat (j := 0) hw0, notin_deal (s := (true, b)) ⟨t, rfl, SqT.of upd_same⟩ (hw0d.mono (S3.trans (same_new ht))) ⟨_, rfl, ?_⟩⟩⟩
    rw [decide_eq_true (X.first r0 hr0)]
    refine iteF ?_
    have S4 := same_new (o := .tup [.str "write", .int b]) ht
    have h4 := S4 _ _ h3
    -- held
    have anyW : ∀ (lv : Lv) (ns : List Int) (r : Int), r ∈ rs → (∀ x ∈ ns, (true, x) ∈ dlOf ds c) → ns.any (fun x => decide ((true, x) ∈ dlOf ds r)) = false := by
      intro lv ns r hr hm
      rw [List.any_eq_false]
      intro x hx
      simpa using X.apart r hr x (hm x hx)
    refine ⟨_, rfl, D, rfl, ⟨_, SqL.of h4⟩, fun D2 hD2 => lc_list (K := K) (a := D) (xs := acc) (fun i H' => H' D2 = some (.lst ((List.replicate i false).map V.bl)) ∧ Same (upd H3 t (.tup [.str "write", .int b])) H') ⟨upd_same, same_new hD2⟩ (fun i H' _ ⟨_, S⟩ => S.seq (SqL.of h4)) ?_ ?_⟩
    · rintro i y H5 hy ⟨h5, S5⟩
      obtain ⟨d, hd, hyd⟩ := paired_get hacc hy
      obtain ⟨r, hr, rfl⟩ := rows_get hd
      have hi := (List.getElem?_eq_some_iff.mp hy).1
      have S35 := S4.trans S5
      refine ⟨rfl, yesT ⟨_, rfl, _, rfl, _, rfl, p, cC, dx, fs, _, rfl, S35 _ _ hp3, T.clCut, T.nCut_at, f2, _, dlOf ds c, a, .lax, rfl, hM3.mono S35, h8, fun pk ns H6 S6 hn hm hlen => ?_⟩⟩
      refine ⟨y, .ref pk, dlOf ds r, ns, rfl, ((hyd.mono S3).mono S35).mono S6, ⟨pk, rfl, hn⟩, by omega, fun H7 S7 => ⟨_, S7 _ _ (S6 _ _ h5), ?_, ?_⟩⟩
      · rw [List.length_map, List.length_replicate]; exact small1000 (by omega)
      · rw [anyW .lax ns r (List.mem_of_getElem? hr) hm, falses_snoc]
        exact ⟨upd_same, same_upd ((S5.trans S6).trans S7) hD2⟩
    rintro H5 ⟨h5, S5⟩
    refine ⟨D2, _, rfl, SqL.of h5, _, rfl, ?_⟩
    rw [any_falses]
    refine iteF ?_
    have S35 := S4.trans S5
    have h5' := S5 _ _ h4
    -- late
    refine ⟨_, rfl, D, rfl, ⟨_, SqL.of h5'⟩, fun D3 hD3 => lc_list (K := K) (a := D) (xs := acc) (fun i H' => H' D3 = some (.lst ((List.replicate i false).map V.bl)) ∧ Same H5 H') ⟨upd_same, same_new hD3⟩ (fun i H' _ ⟨_, S⟩ => S.seq (SqL.of h5')) ?_ ?_⟩
    · rintro i y H6 hy ⟨h6, S6⟩
      obtain ⟨d, hd, hyd⟩ := paired_get hacc hy
      obtain ⟨r, hr, rfl⟩ := rows_get hd
      have hi := (List.getElem?_eq_some_iff.mp hy).1
      have S36 := S35.trans S6
      refine ⟨rfl, yesT ⟨_, rfl, _, rfl, _, rfl, p, cC, dx, fs, _, rfl, S36 _ _ hp3, T.clCut, T.nCut_at, f2, _, rfl, _, dlOf ds c, a, lvOf ls c, rfl, hM3.mono S36, h8, fun pk ns H7 S7 hn hm hlen => ?_⟩⟩
      refine ⟨y, .ref pk, dlOf ds r, ns, rfl, ((hyd.mono S3).mono S36).mono S7, ⟨pk, rfl, hn⟩, by omega, fun H8 S8 => ⟨_, S8 _ _ (S7 _ _ h6), ?_, ?_⟩⟩
      · rw [List.length_map, List.length_replicate]; exact small1000 (by omega)
      · rw [anyW .lax ns r (List.mem_of_getElem? hr) hm, falses_snoc]
        exact ⟨upd_same, same_upd ((S6.trans S7).trans S8) hD3⟩
    rintro H6 ⟨h6, S6⟩
    refine ⟨D3, _, rfl, SqL.of h6, _, rfl, ?_⟩
    rw [any_falses]
    refine iteF ?_
    have S36 := S35.trans S6
    have h6' := S6 _ _ h5'
    -- chain
    refine ⟨_, rfl, _, rfl, 1, rfl, D, acc, rfl, SqL.of h6', fun e he => ⟨D, e, _, _, rfl, SqL.of ((same_new he) _ _ h6'), SqL.of upd_same, fun D4 hD4 => ?_⟩⟩
    have S7 := same_new (o := .lst (cutV acc (some 1) none)) he
    have h7 := S7 _ _ h6'
    have he7 : (upd H6 e (.lst (cutV acc (some 1) none))) e = some (.lst (cutV acc (some 1) none)) := upd_same
    have ecut : cutV acc (some 1) none = acc.drop 1 := by
      unfold cutV
      rw [HT.sIx_none, show (1 : Int) = ((1 : Nat) : Int) from rfl, HT.sIx_nat]
      by_cases hz : 1 ≤ acc.length
      · rw [Nat.min_eq_left hz]
        exact List.take_of_length_le (by rw [List.length_drop]; exact Nat.le_refl _)
      · have : acc = [] := List.length_eq_zero_iff.mp (by omega)
        subst this; rfl
    refine lc_zip (K := K) (a := D) (b := e) (xs := acc) (ys := cutV acc (some 1) none) (fun i H' => (∃ m, H' D4 = some (.lst ((List.replicate m false).map V.bl)) ∧ m = i) ∧ Same (upd H6 e (.lst (cutV acc (some 1) none))) H') ⟨⟨0, upd_same, rfl⟩, same_new hD4⟩
      (fun i H' ⟨_, S⟩ => ⟨S.seq (SqL.of h7), S.seq (SqL.of he7)⟩) ?_ ?_
    · rintro i y z t2 H8 hy hz ⟨⟨m, h8', rfl⟩, S8⟩ ht2
      obtain ⟨d, hd, hyd⟩ := paired_get hacc hy
      obtain ⟨r, hr, rfl⟩ := rows_get hd
      rw [ecut, List.getElem?_drop, Nat.add_comm] at hz
      obtain ⟨d2, hd2, hzd⟩ := paired_get hacc hz
      obtain ⟨r2, hr2, rfl⟩ := rows_get hd2
      have hi := (List.getElem?_eq_some_iff.mp hy).1
      have S9 := S8.trans (same_new (o := .tup [y, z]) ht2)
      have S39 := (S36.trans S7).trans S9
      refine ⟨t2, _, rfl, SqT.of upd_same, rfl, _, _, rfl, _, _, rfl, rfl, rfl, yesT ?_⟩
      have hr8 : (dlOf ds r).length ≤ 8 := by
        have hrr := pre.rng r (List.mem_cons_of_mem _ (List.mem_of_getElem? hr))
        have : dlOf ds r ∈ ds := by
          obtain ⟨j, rfl⟩ := Int.eq_ofNat_of_zero_le hrr.1
          unfold dlOf
          rw [Int.toNat_natCast, List.getElem?_eq_getElem (by omega)]
          exact List.getElem_mem _
        exact (okD.2.2 _ this).2.1
      refine ⟨_, rfl, _, rfl, y, z, dlOf ds r, dlOf ds r2, rfl, (hyd.mono S3).mono S39, (hzd.mono S3).mono S39, hr8, X.chain m r r2 hr hr2, fun pk ns Ha Sa hn hne => ?_⟩
      refine ⟨Nat.zero_le _, fun q hq => ⟨_, _, .lst ((same_new hq).seq hn) (ints_dp ns), .lst (SqL.of upd_same) .nil, ints_shaped ns, nil_shaped, ?_⟩⟩
      have Sb := Sa.trans (same_new (o := .lst []) hq)
      refine ⟨_, Sb _ _ ((same_new ht2) _ _ h8'), ?_, ⟨m + 1, ?_, rfl⟩, same_upd (S9.trans Sb) hD4⟩
      · rw [List.length_map, List.length_replicate]; exact small1000 (by omega)
      · rw [eqv_nil hne, falses_snoc]; exact upd_same
    rintro H8 ⟨⟨m, h8', _⟩, S8⟩
    refine ⟨D4, _, rfl, SqL.of h8', _, rfl, ?_⟩
    rw [any_falses]
    refine iteF ?_
    have S38 := (S36.trans S7).trans S8
    have h8a := S8 _ _ h7
    -- close
    obtain ⟨rl, hrl⟩ : ∃ rl, rs.getLast? = some rl := by
      cases hz : rs.getLast? with
      | none => exact absurd (List.getLast?_eq_none_iff.mp hz) pre.ne
      | some rl => exact ⟨rl, rfl⟩
    obtain ⟨wl, hwl, hwld⟩ := paired_last (y := dlOf ds rl) hacc (by rw [List.getLast?_map, hrl]; rfl)
    obtain ⟨xb, hx1, hx2⟩ := X.close rl hrl
    refine ⟨_, rfl, _, rfl, p, cC, dx, fs, _, rfl, S38 _ _ hp3, T.clCut, T.nCut_at, f2, _, rfl, _, rfl, 1, rfl, D, acc, -1, wl, rfl, rfl, SqL.of h8a, atI_neg1 hwl, ?_⟩
    refine ⟨_, _, wl, dlOf ds c, dlOf ds rl, lvOf ls c, xb, rfl, hM3.mono S38, (hwld.mono S3).mono S38, h8, hx1, hx2, fun H9 S9 => ⟨true, rfl, iteF ?_⟩⟩
    have S39 := S38.trans S9
    -- barred
    have hR9 : SqL K H9 l (rs.map V.int) := (S3.trans S39).seq hR2
    refine ⟨_, rfl, _, rfl, _, rfl, p, cC, dx, fs, _, rfl, S39 _ _ hp3, T.clCut, T.nCut_row, f3, l, rfl, ⟨_, hR9⟩, fun D5 hD5 => lc_list (K := K) (a := l) (xs := rs.map V.int) (fun i H' => Same H9 H' ∧ ∃ ts, H' D5 = some (.lst ts) ∧ Paired (RowAt K H') ts ((rs.take i).map fun r => (dlOf ds r, lvOf ls r)))
      ⟨same_new hD5, [], upd_same, by simp; exact .nil⟩ (fun i H' _ ⟨S, _⟩ => S.seq hR9) ?_ ?_⟩
    · rintro i y Ha hy ⟨Sa, ts, ha, hts⟩
      obtain ⟨x, hx, rfl⟩ := ints_get hy
      have hxr := pre.rng x (List.mem_cons_of_mem _ (List.mem_of_getElem? hx))
      obtain ⟨u', hu', hd'⟩ := dl_at hus hxr.1 hxr.2
      have htl := paired_len hts
      rw [List.length_map, List.length_take] at htl
      have S2a := (S3.trans S39).trans Sa
      refine ⟨rfl, yesT ⟨_, rfl, _, rfl, pd, us, x, _, rfl, rfl, S2a.seq hpd, hu', _, rfl, _, rfl, al, _, x, _, rfl, rfl, S2a.seq hal, lv_at hxr.1 (by rw [X.len]; exact hxr.2), (by show 2 ≤ sizeLine; decide), fun q hq => ?_⟩⟩
      have Sq := same_new (o := .tup [u', .str (lvS (lvOf ls x))]) hq
      refine ⟨ts, Sq _ _ ha, small1000 (by omega), same_upd (Sa.trans Sq) hD5, ts ++ [.ref q], upd_same, ?_⟩
      rw [List.take_add_one, hx, List.map_append]
      have n5 : (upd Ha q (.tup [u', .str (lvS (lvOf ls x))])) D5 = some (.lst ts) := Sq _ _ ha
      have T5 : TupS (upd Ha q (.tup [u', .str (lvS (lvOf ls x))])) (upd (upd Ha q (.tup [u', .str (lvS (lvOf ls x))])) D5 (.lst (ts ++ [.ref q]))) := TupS.lst n5
      refine paired_snoc (Paired.mapP hts fun _ _ h => (h.mono Sq).tmono T5) ⟨q, u', rfl, T5.tup (SqT.of upd_same), ((hd'.mono S2a).mono Sq).tmono T5⟩
    rintro Ha ⟨Sa, ts, ha, hts⟩
    rw [List.length_map, List.take_length] at hts
    refine ⟨_, D5, dlOf ds c, lvOf ls c, ts, _, rfl, hM3.mono (S39.trans Sa), h8, SqL.of ha, hts, fun Hb Sb => ⟨_, rfl, ?_⟩⟩
    have kk := k Hb (((S03.trans S39).trans Sa).trans Sb)
    unfold faultOf at kk
    cases hdue : (decide (lvOf ls c = .whole) && dueL (dlOf ds c) (rs.map fun r => (dlOf ds r, lvOf ls r)) false) with
    | true =>
      rw [hdue, if_pos rfl] at kk
      exact iteT kk
    | false =>
      rw [hdue, if_neg (by decide)] at kk
      exact iteF kk
end
end K60

set_option Elab.async false
set_option linter.all false
set_option maxRecDepth 100000
set_option maxHeartbeats 8000000
namespace K60
open PySem L2 PySem.Spec
def weaveOf (ds : List Deal) (c : Int) (a : Nat) (rs : List Int) : List Int :=
  List.replicate (a + 1) c ++ (rs.flatMap fun r => List.replicate ((dlOf ds r).length + 1) r) ++ List.replicate ((dlOf ds c).length - a) c
theorem rep_one (n : Nat) (v : V) : (List.replicate n [v]).flatten = List.replicate n v := List.flatten_replicate_singleton
theorem map_rep (n : Nat) (x : Int) : List.replicate n (V.int x) = (List.replicate n x).map V.int := by rw [List.map_replicate]
theorem flat_len {ds : List Deal} (h : ∀ d ∈ ds, d.length ≤ 8) : ∀ rs : List Int, (∀ r ∈ rs, 0 ≤ r ∧ r < ds.length) → (rs.flatMap fun r => List.replicate ((dlOf ds r).length + 1) r).length ≤ 9 * rs.length
  | [], _ => by simp
  | r :: rs, hr => by
    have ih := flat_len h rs fun x hx => hr x (List.mem_cons_of_mem _ hx)
    have hrr := hr r List.mem_cons_self
    have h8 : (dlOf ds r).length ≤ 8 := by
      obtain ⟨j, rfl⟩ := Int.eq_ofNat_of_zero_le hrr.1
      unfold dlOf
      rw [Int.toNat_natCast, List.getElem?_eq_getElem (by omega)]
      exact h _ (List.getElem_mem _)
    rw [List.flatMap_cons, List.length_append, List.length_replicate, List.length_cons]
    omega
theorem dl_len {ds : List Deal} (okD : DsOk ds) {r : Int} (h : 0 ≤ r ∧ r < ds.length) : (dlOf ds r).length ≤ 8 := by
  obtain ⟨j, rfl⟩ := Int.eq_ofNat_of_zero_le h.1
  unfold dlOf
  rw [Int.toNat_natCast, List.getElem?_eq_getElem (by omega)]
  exact (okD.2.2 _ (List.getElem_mem _)).2.1
/-! ### what is left of each in a weaving -/
def leftOf (ds : List Deal) (ws : List Int) : List Int := (List.range ds.length).map fun m : Nat => (((dlOf ds (m : Int)).length + 1 : Nat) : Int) - (ws.count (m : Int) : Nat)
theorem leftOf_at {ds : List Deal} (ws : List Int) {j : Nat} (h : j < ds.length) : (leftOf ds ws)[j]? = some ((((dlOf ds j).length + 1 : Nat) : Int) - (ws.count (j : Int) : Nat)) := by
  unfold leftOf
  rw [List.getElem?_map, List.getElem?_range h]; rfl
theorem leftOf_len (ds : List Deal) (ws : List Int) : (leftOf ds ws).length = ds.length := by simp [leftOf]
theorem leftOf_step {ds : List Deal} {ws : List Int} {i j : Nat} (hj : j < ds.length) (h : ws[i]? = some (j : Int)) :
    (leftOf ds (ws.take i)).set j ((((dlOf ds j).length + 1 : Nat) : Int) - ((ws.take i).count (j : Int) : Nat) - 1) = leftOf ds (ws.take (i + 1)) := by
  apply List.ext_getElem?
  intro m
  have e : ws.take (i + 1) = ws.take i ++ [(j : Int)] := by rw [List.take_add_one, h]; rfl
  by_cases hm : m < ds.length
  · by_cases hmj : m = j
    · subst hmj
      rw [List.getElem?_set_self (by rw [leftOf_len]; exact hm), leftOf_at _ hm, e, List.count_append, List.count_singleton_self]
      congr 1; omega
    · rw [List.getElem?_set_ne (fun z => hmj z.symm), leftOf_at _ hm, leftOf_at _ hm, e, List.count_append]
      have : List.count (m : Int) [(j : Int)] = 0 := by
        rw [List.count_eq_zero]
        intro z
        simp only [List.mem_singleton] at z
        exact hmj (by omega)
      rw [this]; simp
  · rw [List.getElem?_eq_none (by rw [List.length_set, leftOf_len]; omega), List.getElem?_eq_none (by rw [leftOf_len]; omega)]
/-- a weaving of these dealings -/
structure IsWeave (ds : List Deal) (ws : List Int) : Prop where
  rng : ∀ m ∈ ws, 0 ≤ m ∧ m < ds.length
  cnt : ∀ j : Nat, j < ds.length → ws.count (j : Int) = (dlOf ds j).length + 1
  few : ws.length ≤ 1000
theorem sum_zeros : ∀ l : List Int, (∀ x ∈ l, x = 0) → l.sum = 0
  | [], _ => rfl
  | x :: l, h => by
    rw [List.sum_cons, h x List.mem_cons_self, sum_zeros l fun y hy => h y (List.mem_cons_of_mem _ hy)]; rfl
theorem left_end {ds : List Deal} {ws : List Int} (W : IsWeave ds ws) : (leftOf ds ws).sum = 0 := by
  refine sum_zeros _ fun x hx => ?_
  unfold leftOf at hx
  obtain ⟨m, hm, rfl⟩ := List.mem_map.mp hx
  rw [W.cnt m (List.mem_range.mp hm)]
  omega
section
variable {P : Program} {w : World} {K : PySem.W.Frag} {mg : Str → Option Value} {base : Heap} {cC cE cR : Addr}
def spWeaving (K : PySem.W.Frag) (cC : Addr) : Sp := fun vs H Q _ => ∃ (v : V) (p l : Addr) (ds : List Deal) (c : Int) (a : Nat) (rs : List Int), vs = [v, .ref p] ∧ DealsAt K H v ds ∧ DsOk ds ∧ CutAt cC H p c a l ∧ SqL K H l (rs.map V.int) ∧ CutPre ds c a rs ∧
  (∀ m : Int, 0 ≤ m → m < ds.length → m ∈ c :: rs) ∧ rs.length ≤ 100 ∧ ∀ (q : Addr) (H' : Hp), Same H H' → SqL K H' q ((weaveOf ds c a rs).map V.int) → Q (.ref q) H'
theorem ok_cut_weaving {f : Addr} {fd : FuncData} (F : Fun K "cut_weaving" "cut_weaving" s_cut_weaving f fd) (T : Facts K mg cC cE cR) (c1 : C8.Cal P w K mg base 6 "sure_dealings" (spSureD K) []) (c2 : C8.Cal P w K mg base 3 "is_cut" (spIsCut K cC) []) :
    FnOk P w K mg base CX0 7 f fd ["dealings", "cut"] (spWeaving K cC) := by
  refine F.ok sc_cut_weaving (fun vs H Q E h => ?_) (fun cdv A outer s H vs Q E hr h => ?_)
  · obtain ⟨v, p, l, ds, c, a, rs, rfl, _⟩ := h; rfl
  · obtain ⟨v, p, l, ds, c, a, rs, rfl, hD, okD, hC, hR, pre, hall, few, k⟩ := h
    have nd := sc_cut_weaving.nd
    refine ⟨_, pss_cons (ps_expr (C8.pe_c c1 hr (by decide) rfl (pa_cons (pv 0) pa_nil)))
      (pss_cons (ps_if (pt_not (pt_val (C8.pe_c c2 hr (by decide) rfl (pa_cons (pv 0) (pa_cons (pv 1) pa_nil))))) (pss_one ps_never) pss_nil)
      (pss_cons (ps_set (i := 2) nd rfl (Or.inl rfl) (pe_op op_rep (pe_lst (pa_cons (pe_fld (pv 1) rfl) pa_nil)) (pe_op op_add (pe_fld (pv 1) rfl) pe_int)))
      (pss_cons (ps_for PassesOwn.never rfl (pi_list (pe_fld (pv 1) rfl)) (pg_name (i := 3) nd rfl (Or.inl rfl))
        (pss_one (ps_expr (pe_bm PySem.F.plainAttrs_list PySem.F.slot_list_extend PySem.F.type_list_extend mt_extend (pv 2) (pa_cons (pe_op op_rep (pe_lst (pa_cons (pv 3) pa_nil)) (pe_op op_add (pe_callB call_len_seq (by rfl) T.z_len PySem.boot_len (pa_cons (pe_ix ix_list (pv 0) (pv 3) (fun _ _ => rfl)) pa_nil)) pe_int)) pa_nil)))))
      (pss_cons (ps_expr (pe_bm PySem.F.plainAttrs_list PySem.F.slot_list_extend PySem.F.type_list_extend mt_extend (pv 2) (pa_cons (pe_op op_rep (pe_lst (pa_cons (pe_fld (pv 1) rfl) pa_nil)) (pe_op op_sub (pe_callB call_len_seq (by rfl) T.z_len PySem.boot_len (pa_cons (pe_ix ix_list (pv 0) (pe_fld (pv 1) rfl) (fun _ _ => rfl)) pa_nil)) (pe_fld (pv 1) rfl))) pa_nil)))
      (pss_cons (ps_for PassesOwn.never rfl (pi_enum (by rfl) T.z_enumerate (pa_cons (pv 0) pa_nil)) (pg_tup rfl (pgs_cons (pg_name (i := 3) nd rfl (Or.inl rfl)) (pgs_cons (pg_name (i := 4) nd rfl (Or.inl rfl)) pgs_nil)))
        (pss_one (ps_if (PW.pt (pw_and (pt_cmpR op_ne (pv 3) (pe_fld (pv 1) rfl) (nomark _)) (pw_and1 (pt_cmpR op_notIn_seq (pv 3) (pe_fld (pv 1) rfl) (by rfl))))) (pss_one ps_never) pss_nil)))
      (pss_one (ps_ret (pv 2)))))))), ?_⟩
    have hc := pre.rng c List.mem_cons_self
    have hM8 := dl_len okD hc
    refine ⟨_, rfl, v, ds, rfl, hD, okD, fun H1 S1 => ?_⟩
    refine ⟨_, rfl, _, rfl, v, p, l, ds, c, a, rs, rfl, hD.mono S1, hC.mono S1, S1.seq hR, pre, fun H2 S2 => ⟨true, rfl, iteF ?_⟩⟩
    have S02 := S1.trans S2
    have hD2 := hD.mono S02
    obtain ⟨pd, us, rfl, hpd, hus⟩ := id hD2
    obtain ⟨dx, fs, hp, f1, f2, f3⟩ := hC.mono S02
    have hR2 := S02.seq hR
    have hdl := paired_len hus
    have hat := pre.at_
    -- weaving = [one] * (at + 1)
    refine ⟨_, rfl, p, cC, dx, fs, _, rfl, hp, T.clCut, T.nCut_one, f1, (by show 1 ≤ sizeLine; decide), fun x hx => ?_⟩
    have Sx := same_new (o := .lst [V.int c]) hx
    refine ⟨_, rfl, p, cC, dx, fs, _, rfl, Sx _ _ hp, T.clCut, T.nCut_at, f2, _, _, rfl, rfl, x, _, [V.int c], rfl, rfl, upd_same, by omega, by omega, ?_, fun g hg => ?_⟩
    · have : ((a : Int) + 1).toNat = a + 1 := by omega
      rw [this]
      exact Nat.le_trans (by simp; omega) (show 1000 ≤ sizeLine by decide)
    have ea : ((a : Int) + 1).toNat = a + 1 := by omega
    have hg2 : H2 g = none := Sx.free hg
    refine ⟨_, rfl, p, cC, dx, fs, _, rfl, ((same_new hg) _ _ (Sx _ _ hp)), T.clCut, T.nCut_row, f3, l, rfl, ⟨_, (same_new hg).seq (Sx.seq hR2)⟩, for_list (K := K) (a := l) (xs := rs.map V.int)
      (fun i σ H' => ∃ o1 o2, σ = [some (.ref pd), some (.ref p), some (.ref g), o1, o2] ∧ Same H2 H' ∧ H' g = some (.lst ((List.replicate (a + 1) c ++ ((rs.take i).flatMap fun r => List.replicate ((dlOf ds r).length + 1) r)).map V.int)))
      ⟨none, none, rfl, same_upd Sx hg2, ?_⟩ (fun i σ H' _ ⟨_, _, _, S, _⟩ => S.seq hR2) ?_ ?_⟩
    · rw [upd_same, ea, rep_one, map_rep]; simp
    · rintro i y σ H3 hy ⟨o1, o2, rfl, S3, h3⟩
      obtain ⟨r, hr, rfl⟩ := ints_get hy
      have hrr := pre.rng r (List.mem_cons_of_mem _ (List.mem_of_getElem? hr))
      obtain ⟨u, hu, hdu⟩ := dl_at hus hrr.1 hrr.2
      obtain ⟨pu, uu, rfl, hpu, huu⟩ := hdu
      have hul := paired_len huu
      have hr8 := dl_len okD hrr
      have hi := (List.getElem?_eq_some_iff.mp hr).1
      have hfl := flat_len (fun d hd => (okD.2.2 d hd).2.1) (rs.take i) fun x hx => pre.rng x (List.mem_cons_of_mem _ (List.mem_of_mem_take hx))
      rw [List.length_take] at hfl
      refine ⟨_, rfl, .inl ⟨rfl, _, SqL.of h3⟩, _, rfl, (by show 1 ≤ sizeLine; decide), fun z hz => ?_⟩
      have Sz := same_new (o := .lst [V.int r]) hz
      refine ⟨_, rfl, _, rfl, pd, us, r, _, rfl, rfl, Sz.seq (S3.seq hpd), hu, pu, uu, rfl, .inr (same_tup Sz (same_tup S3 hpu)), _, _, rfl, rfl, z, _, [V.int r], rfl, rfl, upd_same, by omega, by omega, ?_, fun b hb => ?_⟩
      · have : ((uu.length : Int) + 1).toNat = uu.length + 1 := by omega
        rw [this]
        exact Nat.le_trans (by simp; omega) (show 1000 ≤ sizeLine by decide)
      have eu : ((uu.length : Int) + 1).toNat = (dlOf ds r).length + 1 := by omega
      have hgz : (upd H3 z (.lst [V.int r])) g = some (.lst _) := Sz _ _ h3
      have hgb := (same_new (o := .lst (List.replicate ((uu.length : Int) + 1).toNat [V.int r]).flatten) hb) _ _ hgz
      refine ⟨g, b, _, _, rfl, rfl, hgb, upd_same, ?_, _, _, rfl, same_upd (S3.trans (Sz.trans (same_new hb))) hg2, ?_⟩
      · rw [eu, rep_one]
        refine Nat.le_trans (m := 1200) ?_ (show 1200 ≤ sizeLine by decide)
        simp only [List.length_map, List.length_append, List.length_replicate]
        omega
      · rw [upd_same, eu, rep_one, map_rep, ← List.map_append, List.append_assoc, List.take_add_one, hr, Option.toList_some, List.flatMap_append]
        simp
    rintro σ H3 ⟨o1, o2, rfl, S3, h3⟩
    rw [List.length_map, List.take_length] at h3
    have hfl := flat_len (fun d hd => (okD.2.2 d hd).2.1) rs fun x hx => pre.rng x (List.mem_cons_of_mem _ hx)
    obtain ⟨u, hu, hdu⟩ := dl_at hus hc.1 hc.2
    obtain ⟨pu, uu, rfl, hpu, huu⟩ := hdu
    have hul := paired_len huu
    -- the rest of the one
    refine ⟨_, rfl, .inl ⟨rfl, _, SqL.of h3⟩, _, rfl, p, cC, dx, fs, _, rfl, S3 _ _ hp, T.clCut, T.nCut_one, f1, (by show 1 ≤ sizeLine; decide), fun z hz => ?_⟩
    have Sz := same_new (o := .lst [V.int c]) hz
    have hpz := Sz _ _ (S3 _ _ hp)
    refine ⟨_, rfl, _, rfl, p, cC, dx, fs, _, rfl, hpz, T.clCut, T.nCut_one, f1, pd, us, c, _, rfl, rfl, Sz.seq (S3.seq hpd), hu, pu, uu, rfl, .inr (same_tup Sz (same_tup S3 hpu)), _, rfl, p, cC, dx, fs, _, rfl, hpz, T.clCut, T.nCut_at, f2, _, _, rfl, rfl, z, _, [V.int c], rfl, rfl, upd_same, by omega, by omega, ?_, fun b hb => ?_⟩
    · have : ((uu.length : Int) - (a : Int)).toNat ≤ 8 := by omega
      exact Nat.le_trans (by simp; omega) (show 1000 ≤ sizeLine by decide)
    have eu : ((uu.length : Int) - (a : Int)).toNat = (dlOf ds c).length - a := by omega
    have hgz : (upd H3 z (.lst [V.int c])) g = some (.lst _) := Sz _ _ h3
    have hgb := (same_new (o := .lst (List.replicate ((uu.length : Int) - (a : Int)).toNat [V.int c]).flatten) hb) _ _ hgz
    refine ⟨g, b, _, _, rfl, rfl, hgb, upd_same, ?_, ?_⟩
    · rw [eu, rep_one]
      refine Nat.le_trans (m := 1200) ?_ (show 1200 ≤ sizeLine by decide)
      simp only [List.length_map, List.length_append, List.length_replicate]
      omega
    have hfin : ∀ X : HO, X = .lst ((weaveOf ds c a rs).map V.int) → ∀ H4, Same H2 H4 → True := fun _ _ _ _ => trivial
    have e4 : (((List.replicate (a + 1) c ++ rs.flatMap fun r => List.replicate ((dlOf ds r).length + 1) r).map V.int) ++ (List.replicate ((uu.length : Int) - (a : Int)).toNat [V.int c]).flatten) = (weaveOf ds c a rs).map V.int := by
      rw [eu, rep_one, map_rep, ← List.map_append]; rfl
    have S4 : Same H2 (upd (upd (upd H3 z (.lst [V.int c])) b (.lst (List.replicate ((uu.length : Int) - (a : Int)).toNat [V.int c]).flatten)) g (.lst (((List.replicate (a + 1) c ++ rs.flatMap fun r => List.replicate ((dlOf ds r).length + 1) r).map V.int) ++ (List.replicate ((uu.length : Int) - (a : Int)).toNat [V.int c]).flatten))) :=
      same_upd (S3.trans (Sz.trans (same_new hb))) hg2
    refine ⟨_, rfl, pd, us, rfl, S4.seq hpd, for_enum (K := K) (a := pd) (xs := us) (fun i σ H' => ∃ o1 o2, σ = [some (.ref pd), some (.ref p), some (.ref g), o1, o2] ∧ Same H2 H' ∧ H' g = some (.lst ((weaveOf ds c a rs).map V.int)))
      ⟨_, _, rfl, S4, by rw [upd_same, e4]⟩ (fun i σ H' _ ⟨_, _, _, S, _⟩ => S.seq hpd) ?_ ?_⟩
    · rintro i y σ H5 t hy ⟨o1, o2, rfl, S5, h5⟩ ht
      have hi := (List.getElem?_eq_some_iff.mp hy).1
      have S6 : Same H2 (upd H5 t (.tup [.int (i : Nat), y])) := S5.trans (same_new ht)
      have h6 := (same_new (o := .tup [.int (i : Nat), y]) ht) _ _ h5
      have hp6 := S6 _ _ hp
      refine ⟨t, _, rfl, SqT.of upd_same, rfl, _, _, rfl, _, _, rfl, rfl, ?_⟩
      refine ⟨_, rfl, _, rfl, p, cC, dx, fs, _, rfl, hp6, T.clCut, T.nCut_one, f1, rfl, _, rfl, ?_⟩
      by_cases hic : (i : Int) = c
      · rw [decide_eq_true (by rw [hic])]
        exact iteF (iteF ⟨_, _, rfl, S6, h6⟩)
      · rw [decide_eq_false (by intro z; cases z; exact hic rfl)]
        refine iteT ⟨_, rfl, _, rfl, p, cC, dx, fs, _, rfl, hp6, T.clCut, T.nCut_row, f3, l, _, rfl, .inl (S6.seq hR2), rfl, flat_ints rs, _, rfl, ?_⟩
        have hm : (i : Int) ∈ rs := by
          rcases List.mem_cons.mp (hall (i : Int) (by omega) (by omega)) with z | z
          · exact absurd z hic
          · exact z
        show if (!inV (V.int (i : Nat)) (rs.map V.int)) = true then _ else _
        rw [inV_ints, decide_eq_true hm]
        exact iteF ⟨_, _, rfl, S6, h6⟩
    · rintro σ H5 ⟨o1, o2, rfl, S5, h5⟩
      exact ⟨_, rfl, k g H5 (S02.trans S5) (SqL.of h5)⟩

def spTurns (K : PySem.W.Frag) : Sp := fun vs H Q _ => ∃ (v : V) (ds : List Deal), vs = [v] ∧ DealsAt K H v ds ∧ DsOk ds ∧
  ∀ (q : Addr) (H' : Hp), Same H H' → H q = none → H' q = some (.lst ((leftOf ds []).map V.int)) → Q (.ref q) H'
theorem ok_turns_of {f : Addr} {fd : FuncData} (F : Fun K "turns_of" "turns_of" s_turns_of f fd) (T : Facts K mg cC cE cR) : FnOk P w K mg base CX0 1 f fd ["dealings"] (spTurns K) := by
  refine F.ok sc_turns_of (fun vs H Q E h => ?_) (fun cdv A outer s H vs Q E hr h => ?_)
  · obtain ⟨v, ds, rfl, _⟩ := h; rfl
  · obtain ⟨v, ds, rfl, hD, okD, k⟩ := h
    obtain ⟨p, us, rfl, hp, hus⟩ := id hD
    have hlen := paired_len hus
    have h100 := okD.2.1
    refine ⟨_, pss_one (ps_ret (pe_lc (own := [("dealing", 1)]) (g := gName 1) (tt := tYes) rfl sc_turns_of.nd (pi_list (pv 0)) (blkOk_by (own := [("dealing", 1)]) (N := ["dealings", "dealing"]) (sc := defScope s_turns_of) (by decide +kernel))
      (fun _ _ _ _ _ => pg_name (i := 1) sc_turns_of.nd rfl (Or.inl rfl)) (fun _ _ _ _ _ => pts_nil) (te := tOp (rI0 fun i j => .int (i + j)) (tCB (fun xs H Q => ∃ p ys, xs = [.ref p] ∧ (SqL K H p ys ∨ SqT K H p ys) ∧ Q (.int ys.length) H) (tCons (tVar 1) tNil)) (tC (.int 1))) (fun _ _ _ _ _ => pe_op op_add (pe_callB call_len_seq (by rfl) T.z_len PySem.boot_len (pa_cons (pv 1) pa_nil)) pe_int))), ?_⟩
    refine ⟨_, rfl, p, rfl, ⟨us, hp⟩, fun D hD0 => lc_list (K := K) (a := p) (xs := us) (fun i H' => H' D = some (.lst (((leftOf ds []).take i).map V.int)) ∧ Same H H') ⟨by simp [upd_same], same_new hD0⟩ (fun i H' _ ⟨_, S⟩ => S.seq hp) ?_ ?_⟩
    · rintro i y H1 hy ⟨h1, S⟩
      obtain ⟨d, hd, hyd⟩ := paired_get hus hy
      have hi := (List.getElem?_eq_some_iff.mp hd).1
      obtain ⟨pu, uu, rfl, hpu, huu⟩ := hyd
      refine ⟨rfl, yesT ⟨_, rfl, pu, uu, rfl, .inr (same_tup S hpu), _, _, rfl, rfl, _, h1, ?_, ?_, same_upd S hD0⟩⟩
      · rw [List.length_map, List.length_take]; exact small1000 (by omega)
      · have e := leftOf_at (ds := ds) [] hi
        have e2 : dlOf ds (i : Nat) = d := by unfold dlOf; rw [Int.toNat_natCast, hd]; rfl
        rw [upd_same, List.take_add_one, e, e2, Option.toList_some, List.map_append]
        have := paired_len huu
        simp only [List.count_nil, List.map_cons, List.map_nil]
        have e3 : ((uu.length : Nat) : Int) + 1 = ((d.length + 1 : Nat) : Int) - ((0 : Nat) : Int) := by omega
        rw [e3]
    · rintro H1 ⟨h1, S⟩
      rw [List.take_of_length_le (by rw [leftOf_len]; omega)] at h1
      exact k D H1 S hD0 h1
end
end K60

set_option Elab.async false
set_option linter.all false
set_option maxRecDepth 100000
set_option maxHeartbeats 8000000
namespace K60
open PySem L2 PySem.Spec
section
variable {P : Program} {w : World} {K : PySem.W.Frag} {mg : Str → Option Value} {base : Heap} {cC cE cR : Addr}
theorem ixN_j {n j : Nat} (h : j < n) : ixN n (j : Int) = some j := by
  unfold ixN
  rw [if_pos (by omega), if_pos (by omega), Int.toNat_natCast]
theorem left_pos {ds : List Deal} {ws : List Int} (W : IsWeave ds ws) {i j : Nat} (hj : j < ds.length) (h : ws[i]? = some (j : Int)) :
    (1 : Int) ≤ (((dlOf ds j).length + 1 : Nat) : Int) - ((ws.take i).count (j : Int) : Nat) := by
  have e : ws.take (i + 1) = ws.take i ++ [(j : Int)] := by rw [List.take_add_one, h]; rfl
  have h1 : (ws.take (i + 1)).count (j : Int) ≤ ws.count (j : Int) := (List.take_sublist _ _).count_le _
  rw [e, List.count_append, List.count_singleton_self, W.cnt j hj] at h1
  omega
def spWFault (K : PySem.W.Frag) : Sp := fun vs H Q _ => ∃ (v : V) (q : Addr) (ds : List Deal) (ws : List Int), vs = [v, .ref q] ∧ DealsAt K H v ds ∧ DsOk ds ∧ SqL K H q (ws.map V.int) ∧ IsWeave ds ws ∧ ∀ H', Same H H' → Q .non H'
theorem ok_weaving_fault {f : Addr} {fd : FuncData} (F : Fun K "weaving_fault" "weaving_fault" s_weaving_fault f fd) (T : Facts K mg cC cE cR) (c1 : C8.Cal P w K mg base 6 "sure_dealings" (spSureD K) []) (c2 : C8.Cal P w K mg base 1 "turns_of" (spTurns K) []) (c3 : C8.Cal P w K mg base 2 "is_number_dealings" (spNumber K) []) :
    FnOk P w K mg base CX0 7 f fd ["dealings", "thing"] (spWFault K) := by
  refine F.ok sc_weaving_fault (fun vs H Q E h => ?_) (fun cdv A outer s H vs Q E hr h => ?_)
  · obtain ⟨v, q, ds, ws, rfl, _⟩ := h; rfl
  · obtain ⟨v, q, ds, ws, rfl, hD, okD, hq, W, k⟩ := h
    have nd := sc_weaving_fault.nd
    refine ⟨_, pss_cons (ps_expr (C8.pe_c c1 hr (by decide) rfl (pa_cons (pv 0) pa_nil)))
      (pss_cons (ps_if (pt_not (pt_val (pe_callB call_isi (by rfl) T.z_isinstance (by decide +kernel) (pa_cons (pv 1) (pa_cons (pe_bltn (v := .ty "list") (by rfl) T.z_list (by decide +kernel) rfl) pa_nil))))) (pss_one (ps_ret (pe_un un_neg pe_int))) pss_nil)
      (pss_cons (ps_set (i := 2) nd rfl (Or.inl rfl) (C8.pe_c c2 hr (by decide) rfl (pa_cons (pv 0) pa_nil)))
      (pss_cons (ps_for PassesOwn.never rfl (pi_enum (by rfl) T.z_enumerate (pa_cons (pv 1) pa_nil)) (pg_tup rfl (pgs_cons (pg_name (i := 3) nd rfl (Or.inl rfl)) (pgs_cons (pg_name (i := 4) nd rfl (Or.inl rfl)) pgs_nil)))
        (pss_cons (ps_if (PW.pt (pw_or (pt_not (pt_val (C8.pe_c c3 hr (by decide) rfl (pa_cons (pv 0) (pa_cons (pv 4) pa_nil))))) (pw_or1 (pt_cmpR op_eq (pe_ix ix_list (pv 2) (pv 4) (fun _ _ => rfl)) pe_int (nomark _))))) (pss_one (ps_ret (pv 3))) pss_nil)
        (pss_one (ps_augS (pv 2) (pv 4) pget_list pe_int ip_sub set_list))))
      (pss_one (ps_ret (pe_ifExp (pt_cmpR op_gt (pe_callB (cr_sum rfl) (by rfl) T.z_sum (by decide +kernel) (pa_cons (pv 2) pa_nil)) pe_int (nomark _)) (pe_callB call_len_seq (by rfl) T.z_len PySem.boot_len (pa_cons (pv 1) pa_nil)) pe_non)))))), ?_⟩
    refine ⟨_, rfl, v, ds, rfl, hD, okD, fun H1 S1 => ?_⟩
    refine ⟨_, rfl, _, _, _, _, true, rfl, .ty "list", SqL_ty (S1.seq hq), kit_ty (by decide +kernel), true, rfl, iteF ?_⟩
    refine ⟨_, rfl, v, ds, rfl, hD.mono S1, okD, fun g H2 S2 hg h2 => ?_⟩
    have S02 := S1.trans S2
    have hq1 := S1.seq hq
    refine ⟨_, rfl, q, _, rfl, S02.seq hq, for_enum (K := K) (a := q) (xs := ws.map V.int)
      (fun i σ H' => ∃ o1 o2, σ = [some v, some (.ref q), some (.ref g), o1, o2] ∧ Same H1 H' ∧ H' g = some (.lst ((leftOf ds (ws.take i)).map V.int)))
      ⟨none, none, rfl, S2, h2⟩ (fun i σ H' _ ⟨_, _, _, S, _⟩ => S.seq hq1) ?_ ?_⟩
    · rintro i y σ H3 t hy ⟨o1, o2, rfl, S3, h3⟩ ht
      obtain ⟨x, hx, rfl⟩ := ints_get hy
      have hxr := W.rng x (List.mem_of_getElem? hx)
      obtain ⟨j, rfl⟩ := Int.eq_ofNat_of_zero_le hxr.1
      have hj : j < ds.length := by omega
      have St := same_new (o := .tup [.int (i : Nat), .int (j : Nat)]) ht
      have S4 := S3.trans St
      have h4 := St _ _ h3
      have hpos := left_pos W hj hx
      have hget : ((leftOf ds (ws.take i)).map V.int)[j]? = some (.int ((((dlOf ds j).length + 1 : Nat) : Int) - ((ws.take i).count (j : Int) : Nat))) := by
        rw [List.getElem?_map, leftOf_at _ hj]; rfl
      refine ⟨t, _, rfl, SqT.of upd_same, rfl, _, _, rfl, _, _, rfl, rfl, ?_⟩
      refine ⟨_, rfl, _, rfl, v, ds, _, rfl, (hD.mono S1).mono S4, hxr.1, hxr.2, true, rfl, iteF ?_⟩
      refine ⟨_, rfl, _, rfl, g, _, _, _, rfl, rfl, SqL.of h4, atI_nat hget, rfl, ?_⟩
      have hne : decide (V.int ((((dlOf ds j).length + 1 : Nat) : Int) - ((ws.take i).count (j : Int) : Nat)) = V.int 0) = false := decide_eq_false (by intro z; injection z with z; omega)
      refine ⟨false, congrArg V.bl hne, iteF ?_⟩
      refine ⟨_, rfl, _, rfl, g, _, j, _, rfl, rfl, SqL.of h4, hget, _, _, rfl, rfl, ?_⟩
      have e := leftOf_step hj hx
      refine ⟨g, _, _, j, rfl, rfl, h4, ?_, ?_⟩
      · exact ixN_j (by rw [List.length_map, leftOf_len]; exact hj)
      · refine ⟨_, _, rfl, same_upd S4 hg, ?_⟩
        rw [upd_same, ← e, List.map_set]
    · rintro σ H3 ⟨o1, o2, rfl, S3, h3⟩
      rw [List.length_map, List.take_length] at h3
      refine ⟨_, rfl, g, _, rfl, SqL.of h3, _, _, rfl, rfl, ?_⟩
      rw [left_end W]
      exact ⟨false, rfl, iteF (k H3 (S1.trans S3))⟩

def spLook (K : PySem.W.Frag) : Sp := fun vs H Q _ => ∃ (v u : V) (q : Addr) (ds : List Deal) (ls : List Lv) (ws : List Int), vs = [v, u, .ref q] ∧ DealsAt K H v ds ∧ DsOk ds ∧ LvsAt K H u ls ∧ ls.length = ds.length ∧ SqL K H q (ws.map V.int) ∧ IsWeave ds ws ∧ ∀ H', Same H H' → Q .non H'
theorem ok_look_at {f : Addr} {fd : FuncData} (F : Fun K "look_at" "look_at" s_look_at f fd) (T : Facts K mg cC cE cR) (c1 : C8.Cal P w K mg base 5 "are_dealings" (spDealings K) []) (c2 : C8.Cal P w K mg base 2 "are_levels" (spLevels K) []) (c3 : C8.Cal P w K mg base 7 "weaving_fault" (spWFault K) []) :
    FnOk P w K mg base CX0 8 f fd ["dealings", "levels", "weaving"] (spLook K) := by
  refine F.ok sc_look_at (fun vs H Q E h => ?_) (fun cdv A outer s H vs Q E hr h => ?_)
  · obtain ⟨v, u, q, ds, ls, ws, rfl, _⟩ := h; rfl
  · obtain ⟨v, u, q, ds, ls, ws, rfl, hD, okD, hL, hl, hq, W, k⟩ := h
    have nd := sc_look_at.nd
    refine ⟨_, pss_cons (ps_if (pt_not (pt_val (C8.pe_c c1 hr (by decide) rfl (pa_cons (pv 0) pa_nil)))) (pss_one ps_never) pss_nil)
      (pss_cons (ps_if (pt_not (pt_val (C8.pe_c c2 hr (by decide) rfl (pa_cons (pv 1) (pa_cons (pe_callB call_len_seq (by rfl) T.z_len PySem.boot_len (pa_cons (pv 0) pa_nil)) pa_nil))))) (pss_one ps_never) pss_nil)
      (pss_cons (ps_set (i := 3) nd rfl (Or.inl rfl) (C8.pe_c c3 hr (by decide) rfl (pa_cons (pv 0) (pa_cons (pv 2) pa_nil))))
      (pss_one (ps_if (pt_cmpR op_notN (pv 3) pe_non (nomark _)) (pss_one ps_never) pss_nil)))), ?_⟩
    refine ⟨_, rfl, _, ds, rfl, hD, okD, fun H1 S1 => ⟨true, rfl, iteF ?_⟩⟩
    have hD1 := hD.mono S1
    obtain ⟨p, us, rfl, hp, hus⟩ := id hD1
    have hlen := paired_len hus
    refine ⟨_, rfl, _, rfl, p, _, rfl, .inl hp, ?_⟩
    refine ⟨u, ls, (us.length : Int), rfl, hL.mono S1, by omega, by have := okD.2.1; omega, fun H2 S2 => ⟨true, rfl, iteF ?_⟩⟩
    have S02 := S1.trans S2
    refine ⟨_, rfl, _, rfl, _, q, ds, ws, rfl, hD.mono S02, okD, S02.seq hq, W, fun H3 S3 => ?_⟩
    exact ⟨_, rfl, rfl, false, rfl, iteF (k H3 (S02.trans S3))⟩
end
end K60

set_option Elab.async false
set_option linter.all false
set_option maxRecDepth 100000
set_option maxHeartbeats 8000000
/-! K60Q: an engine as it stands in the heap. -/
namespace K60
open PySem L2 PySem.Spec
inductive Slot where
  | obj | grades | starts | stops | chains | holders | sights | puts | looks | chain (b : Int) | put (n : Int)
  deriving DecidableEq
def Live (N : Nat) (E : Eng) : Slot → Prop
  | .chain b => E.chain b ≠ none
  | .put n => 0 ≤ n ∧ n < N
  | _ => True
def engFs (L : Slot → Addr) (m : Int) : List (Str × V) :=
  [("moment", .int m), ("grades", .ref (L .grades)), ("starts", .ref (L .starts)), ("stops", .ref (L .stops)), ("chains", .ref (L .chains)), ("holders", .ref (L .holders)), ("sights", .ref (L .sights)), ("puts", .ref (L .puts)), ("looks", .ref (L .looks))]
def setg (g : Slot → HO) (t : Slot) (o : HO) : Slot → HO := fun s => if s = t then o else g s
def setL (L : Slot → Addr) (t : Slot) (p : Addr) : Slot → Addr := fun s => if s = t then p else L s
theorem setg_same (g : Slot → HO) (t : Slot) (o : HO) : setg g t o t = o := by simp [setg]
theorem setg_ne (g : Slot → HO) {t s : Slot} (o : HO) (h : s ≠ t) : setg g t o s = g s := by simp [setg, h]
theorem setL_same (g : Slot → Addr) (t : Slot) (o : Addr) : setL g t o t = o := by simp [setL]
theorem setL_ne (g : Slot → Addr) {t s : Slot} (o : Addr) (h : s ≠ t) : setL g t o s = g s := by simp [setL, h]
def LookAt (K : PySem.W.Frag) (H : Hp) (v : V) (t : Int × Int × Int) : Prop := ∃ p, v = .ref p ∧ SqT K H p [.int t.1, .int t.2.1, .int t.2.2]
theorem LookAt.tmono {K : PySem.W.Frag} {H H' : Hp} (e : TupS H H') {v : V} {t : Int × Int × Int} : LookAt K H v t → LookAt K H' v t := fun ⟨p, a, b⟩ => ⟨p, a, e.tup b⟩
/-- a dict's keys: ints, each once -/
def KeysI (kv : List (Key × V)) : Prop := ∃ ns : List Int, kv.map (·.1) = ns.map Sum.inl ∧ ns.Nodup
structure Rep (K : PySem.W.Frag) (cE : Addr) (N B : Nat) (H0 H : Hp) (L : Slot → Addr) (g : Slot → HO) (E : Eng) : Prop where
  base : Same H0 H
  new : ∀ s, Live N E s → H0 (L s) = none
  at_ : ∀ s, Live N E s → H (L s) = some (g s)
  inj : ∀ s t, Live N E s → Live N E t → L s = L t → s = t
  obj : ∃ dx, g .obj = .ins cE dx (engFs L E.mom)
  grades : ∃ kv, g .grades = .dK kv ∧ kv.length ≤ B ∧ ∀ n : Int, 0 ≤ n → n < N → valV kv (.inl n) = some (.str (lvS (E.grade n)))
  starts : ∃ kv, g .starts = .dK kv ∧ kv.length ≤ B ∧ ∀ n, valV kv (.inl n) = (E.start n).map V.int
  stops : ∃ kv, g .stops = .dK kv ∧ kv.length ≤ B ∧ (∀ n, valV kv (.inl n) = (E.stop n).map V.int) ∧ KeysI kv
  chains : ∃ kv, g .chains = .dK kv ∧ kv.length ≤ B ∧ (∀ b, valV kv (.inl b) = (E.chain b).map fun _ => V.ref (L (.chain b))) ∧ KeysI kv
  chain : ∀ b rows, E.chain b = some rows → g (.chain b) = .lst (rows.map V.int) ∧ rows.length ≤ B
  holders : ∃ kv, g .holders = .dK kv ∧ kv.length ≤ B ∧ ∀ b, valV kv (.inl b) = (E.hold b).map V.int
  sights : ∃ kv, g .sights = .dT kv ∧ kv.length ≤ B ∧ ∀ a b, valV kv [.inl a, .inl b] = (E.sight a b).map V.int
  puts : ∃ kv, g .puts = .dK kv ∧ kv.length ≤ B ∧ ∀ n : Int, 0 ≤ n → n < N → valV kv (.inl n) = some (.ref (L (.put n)))
  put : ∀ n : Int, 0 ≤ n → n < N → g (.put n) = .lst ((E.put n).map V.int) ∧ (E.put n).length ≤ B
  looks : ∃ lk, g .looks = .lst lk ∧ E.looks.length ≤ B ∧ Paired (LookAt K H) lk E.looks
section
variable {K : PySem.W.Frag} {cE : Addr} {N B : Nat} {H0 H : Hp} {L : Slot → Addr} {g : Slot → HO} {E : Eng}
theorem Rep.mut (R : Rep K cE N B H0 H L g E) {t : Slot} (ht : Live N E t) : (∀ xs, g t ≠ .tup xs) ∧ ∀ z y, g t ≠ .frz z y := by
  have key : (∃ C dx fs, g t = .ins C dx fs) ∨ (∃ kv, g t = .dK kv) ∨ (∃ kv, g t = .dT kv) ∨ ∃ xs, g t = .lst xs := by
    cases t with
    | obj => obtain ⟨dx, h⟩ := R.obj; exact .inl ⟨_, _, _, h⟩
    | grades => obtain ⟨kv, h, _⟩ := R.grades; exact .inr (.inl ⟨_, h⟩)
    | starts => obtain ⟨kv, h, _⟩ := R.starts; exact .inr (.inl ⟨_, h⟩)
    | stops => obtain ⟨kv, h, _⟩ := R.stops; exact .inr (.inl ⟨_, h⟩)
    | chains => obtain ⟨kv, h, _⟩ := R.chains; exact .inr (.inl ⟨_, h⟩)
    | holders => obtain ⟨kv, h, _⟩ := R.holders; exact .inr (.inl ⟨_, h⟩)
    | sights => obtain ⟨kv, h, _⟩ := R.sights; exact .inr (.inr (.inl ⟨_, h⟩))
    | puts => obtain ⟨kv, h, _⟩ := R.puts; exact .inr (.inl ⟨_, h⟩)
    | looks => obtain ⟨kv, h, _⟩ := R.looks; exact .inr (.inr (.inr ⟨_, h⟩))
    | chain b =>
      have hb : E.chain b ≠ none := ht
      cases e : E.chain b with
      | none => exact absurd e hb
      | some rows => exact .inr (.inr (.inr ⟨_, (R.chain b rows e).1⟩))
    | put n => exact .inr (.inr (.inr ⟨_, (R.put n ht.1 ht.2).1⟩))
  constructor
  · intro xs e
    rcases key with ⟨_, _, _, h⟩ | ⟨_, h⟩ | ⟨_, h⟩ | ⟨_, h⟩ <;> rw [h] at e <;> cases e
  · intro z y e
    rcases key with ⟨_, _, _, h⟩ | ⟨_, h⟩ | ⟨_, h⟩ | ⟨_, h⟩ <;> rw [h] at e <;> cases e
/-- one cell is written -/
theorem Rep.wr (R : Rep K cE N B H0 H L g E) {t : Slot} (ht : Live N E t) (o : HO) :
    Same H0 (upd H (L t) o) ∧ (∀ s, Live N E s → upd H (L t) o (L s) = some (setg g t o s)) ∧ TupS H (upd H (L t) o) := by
  refine ⟨same_upd R.base (R.new t ht), fun s hs => ?_, TupS.set (R.at_ t ht) (R.mut ht).1 (R.mut ht).2⟩
  by_cases e : s = t
  · subst e; rw [upd_same, setg_same]
  · rw [upd_ne (fun z => e (R.inj s t hs ht z)), setg_ne _ _ e]
    exact R.at_ s hs
theorem Rep.mono {H' : Hp} (R : Rep K cE N B H0 H L g E) (S : Same H H') : Rep K cE N B H0 H' L g E :=
  { R with
    base := R.base.trans S
    at_ := fun s hs => S _ _ (R.at_ s hs)
    looks := let ⟨lk, a, b, c⟩ := R.looks; ⟨lk, a, b, Paired.mapP c fun _ _ => LookAt.tmono (TupS.of S)⟩ }
theorem Rep.grow {B' : Nat} (R : Rep K cE N B H0 H L g E) (h : B ≤ B') : Rep K cE N B' H0 H L g E :=
  { R with
    grades := let ⟨kv, a, b, c⟩ := R.grades; ⟨kv, a, by omega, c⟩
    starts := let ⟨kv, a, b, c⟩ := R.starts; ⟨kv, a, by omega, c⟩
    stops := let ⟨kv, a, b, c⟩ := R.stops; ⟨kv, a, by omega, c⟩
    chains := let ⟨kv, a, b, c⟩ := R.chains; ⟨kv, a, by omega, c⟩
    chain := fun b rows h => let ⟨x, y⟩ := R.chain b rows h; ⟨x, by omega⟩
    holders := let ⟨kv, a, b, c⟩ := R.holders; ⟨kv, a, by omega, c⟩
    sights := let ⟨kv, a, b, c⟩ := R.sights; ⟨kv, a, by omega, c⟩
    puts := let ⟨kv, a, b, c⟩ := R.puts; ⟨kv, a, by omega, c⟩
    put := fun n h0 h1 => let ⟨x, y⟩ := R.put n h0 h1; ⟨x, by omega⟩
    looks := let ⟨kv, a, b, c⟩ := R.looks; ⟨kv, a, by omega, c⟩ }
theorem put_len {κ : Type} [DecidableEq κ] (kv : List (κ × V)) (k : κ) (v : V) {B : Nat} (h : kv.length ≤ B) : (putK kv k v).length ≤ B + 1 := Nat.le_trans (length_putK kv k v) (by omega)
theorem Rep.setStart (R : Rep K cE N B H0 H L g E) {kv : List (Key × V)} (e : g .starts = .dK kv) (n x : Int) :
    Rep K cE N (B + 1) H0 (upd H (L .starts) (.dK (putK kv (.inl n) (.int x)))) L (setg g .starts (.dK (putK kv (.inl n) (.int x)))) { E with start := setf E.start n (some x) } := by
  obtain ⟨w1, w2, w3⟩ := R.wr (t := .starts) trivial (.dK (putK kv (.inl n) (.int x)))
  have G := R.grow (Nat.le_succ B)
  obtain ⟨kv', e', l, hv⟩ := R.starts
  rw [e] at e'; cases e'
  exact { G with
    base := w1
    at_ := w2
    starts := ⟨_, setg_same _ _ _, put_len _ _ _ l, fun m => by
      rw [valV_put, hv]
      by_cases h : m = n
      · subst h; simp [setf]
      · rw [if_neg (fun z => h (by injection z))]; show _ = Option.map V.int (setf _ _ _ _); rw [setf_ne _ _ h]⟩
    looks := let ⟨lk, a, b, c⟩ := G.looks; ⟨lk, a, b, Paired.mapP c fun _ _ => LookAt.tmono w3⟩ }
theorem valV_dropK (k j : Key) : ∀ kv : List (Key × V), valV (dropK kv k) j = if j = k then none else valV kv j
  | [] => by simp [dropK, valV]
  | p :: r => by
    have ih := valV_dropK k j r
    unfold dropK at ih ⊢
    by_cases h : p.1 = k
    · rw [List.filter_cons_of_neg (by simp [h]), ih]
      by_cases e : j = k
      · rw [if_pos e, if_pos e]
      · rw [if_neg e, if_neg e, valV_neg (fun z => e (z.symm.trans h))]
    · rw [List.filter_cons_of_pos (by simp [h])]
      by_cases e : p.1 = j
      · rw [valV_pos e, valV_pos e, if_neg (fun z => h (e.trans z))]
      · rw [valV_neg e, valV_neg e, ih]
theorem KeysI.put {kv : List (Key × V)} (h : KeysI kv) (n : Int) (v : V) : KeysI (putK kv (.inl n) v) := by
  obtain ⟨ns, e, nd⟩ := h
  unfold putK
  by_cases c : (kv.any fun p => decide (p.1 = Sum.inl n)) = true
  · rw [if_pos c]
    refine ⟨ns, ?_, nd⟩
    rw [← e, List.map_map]
    apply List.map_congr_left
    intro p _
    by_cases q : p.1 = Sum.inl n
    · simp [q]
    · simp [q]
  · rw [if_neg c]
    refine ⟨ns ++ [n], by simp [e], ?_⟩
    have hn : n ∉ ns := by
      intro hm
      apply c
      have : Sum.inl n ∈ kv.map (·.1) := by rw [e]; exact List.mem_map.mpr ⟨n, hm, rfl⟩
      obtain ⟨p, hp, hq⟩ := List.mem_map.mp this
      exact List.any_eq_true.mpr ⟨p, hp, decide_eq_true hq⟩
    rw [List.nodup_append]
    exact ⟨nd, by simp, fun a ha b hb => by simp only [List.mem_singleton] at hb; subst hb; intro z; subst z; exact hn ha⟩
theorem Rep.lk (R : Rep K cE N B H0 H L g E) {H' : Hp} (w : TupS H H') : ∃ lk, g .looks = .lst lk ∧ E.looks.length ≤ B ∧ Paired (LookAt K H') lk E.looks :=
  let ⟨lk, a, b, c⟩ := R.looks; ⟨lk, a, b, Paired.mapP c fun _ _ => LookAt.tmono w⟩
theorem Rep.setStop (R : Rep K cE N B H0 H L g E) {kv : List (Key × V)} (e : g .stops = .dK kv) (n x : Int) :
    Rep K cE N (B + 1) H0 (upd H (L .stops) (.dK (putK kv (.inl n) (.int x)))) L (setg g .stops (.dK (putK kv (.inl n) (.int x)))) { E with stop := setf E.stop n (some x) } := by
  obtain ⟨w1, w2, w3⟩ := R.wr (t := .stops) trivial (.dK (putK kv (.inl n) (.int x)))
  have G := R.grow (Nat.le_succ B)
  obtain ⟨kv', e', l, hv, ki⟩ := R.stops
  rw [e] at e'; cases e'
  exact { G with
    base := w1
    at_ := w2
    stops := ⟨_, setg_same _ _ _, put_len _ _ _ l, fun m => by
      rw [valV_put, hv]
      by_cases h : m = n
      · subst h; simp [setf]
      · rw [if_neg (fun z => h (by injection z))]; show _ = Option.map V.int (setf _ _ _ _); rw [setf_ne _ _ h], ki.put _ _⟩
    looks := G.lk w3 }
theorem Rep.setHold (R : Rep K cE N B H0 H L g E) {kv : List (Key × V)} (e : g .holders = .dK kv) (n x : Int) :
    Rep K cE N (B + 1) H0 (upd H (L .holders) (.dK (putK kv (.inl n) (.int x)))) L (setg g .holders (.dK (putK kv (.inl n) (.int x)))) { E with hold := setf E.hold n (some x) } := by
  obtain ⟨w1, w2, w3⟩ := R.wr (t := .holders) trivial (.dK (putK kv (.inl n) (.int x)))
  have G := R.grow (Nat.le_succ B)
  obtain ⟨kv', e', l, hv⟩ := R.holders
  rw [e] at e'; cases e'
  exact { G with
    base := w1
    at_ := w2
    holders := ⟨_, setg_same _ _ _, put_len _ _ _ l, fun m => by
      rw [valV_put, hv]
      by_cases h : m = n
      · subst h; simp [setf]
      · rw [if_neg (fun z => h (by injection z))]; show _ = Option.map V.int (setf _ _ _ _); rw [setf_ne _ _ h]⟩
    looks := G.lk w3 }
theorem Rep.popHold (R : Rep K cE N B H0 H L g E) {kv : List (Key × V)} (e : g .holders = .dK kv) (n : Int) :
    Rep K cE N B H0 (upd H (L .holders) (.dK (dropK kv (.inl n)))) L (setg g .holders (.dK (dropK kv (.inl n)))) { E with hold := setf E.hold n none } := by
  obtain ⟨w1, w2, w3⟩ := R.wr (t := .holders) trivial (.dK (dropK kv (.inl n)))
  obtain ⟨kv', e', l, hv⟩ := R.holders
  rw [e] at e'; cases e'
  exact { R with
    base := w1
    at_ := w2
    holders := ⟨_, setg_same _ _ _, Nat.le_trans (dropK_le _ _) l, fun m => by
      rw [valV_dropK, hv]
      by_cases h : m = n
      · subst h; simp [setf]
      · rw [if_neg (fun z => h (by injection z))]; show _ = Option.map V.int (setf _ _ _ _); rw [setf_ne _ _ h]⟩
    looks := R.lk w3 }
theorem Rep.setSight (R : Rep K cE N B H0 H L g E) {kv : List (List Key × V)} (e : g .sights = .dT kv) (n b x : Int) :
    Rep K cE N (B + 1) H0 (upd H (L .sights) (.dT (putK kv [.inl n, .inl b] (.int x)))) L (setg g .sights (.dT (putK kv [.inl n, .inl b] (.int x)))) { E with sight := fun a c => if a = n ∧ c = b then some x else E.sight a c } := by
  obtain ⟨w1, w2, w3⟩ := R.wr (t := .sights) trivial (.dT (putK kv [.inl n, .inl b] (.int x)))
  have G := R.grow (Nat.le_succ B)
  obtain ⟨kv', e', l, hv⟩ := R.sights
  rw [e] at e'; cases e'
  exact { G with
    base := w1
    at_ := w2
    sights := ⟨_, setg_same _ _ _, put_len _ _ _ l, fun a c => by
      rw [valV_put, hv]
      show _ = Option.map V.int (if a = n ∧ c = b then some x else E.sight a c)
      by_cases h : a = n ∧ c = b
      · rw [if_pos h, if_pos (by rw [h.1, h.2])]; rfl
      · rw [if_neg h, if_neg (fun z => h (by injection z with z1 z2; injection z2 with z2 _; injection z1 with z1; injection z2 with z2; exact ⟨z1, z2⟩))]⟩
    looks := G.lk w3 }
theorem Rep.addLook (R : Rep K cE N B H0 H L g E) {lk : List V} (e : g .looks = .lst lk) {t : Addr} {n b x : Int} (ht : SqT K H t [.int n, .int b, .int x]) :
    Rep K cE N (B + 1) H0 (upd H (L .looks) (.lst (lk ++ [.ref t]))) L (setg g .looks (.lst (lk ++ [.ref t]))) { E with looks := E.looks ++ [(n, b, x)] } := by
  obtain ⟨w1, w2, w3⟩ := R.wr (t := .looks) trivial (.lst (lk ++ [.ref t]))
  have G := R.grow (Nat.le_succ B)
  obtain ⟨lk', e', l, hv⟩ := R.looks
  rw [e] at e'; cases e'
  exact { G with
    base := w1
    at_ := w2
    looks := ⟨_, setg_same _ _ _, by rw [List.length_append]; simp; omega, paired_snoc (Paired.mapP hv fun _ _ => LookAt.tmono w3) ⟨t, rfl, w3.tup ht⟩⟩ }
theorem Rep.bump (R : Rep K cE N B H0 H L g E) {dx : Addr} {m : Int} (hm : m = E.mom + 1) (e : g .obj = .ins cE dx (engFs L E.mom)) :
    Rep K cE N B H0 (upd H (L .obj) (.ins cE dx (engFs L m))) L (setg g .obj (.ins cE dx (engFs L m))) { E with mom := E.mom + 1 } := by
  subst hm
  obtain ⟨w1, w2, w3⟩ := R.wr (t := .obj) trivial (.ins cE dx (engFs L (E.mom + 1)))
  exact { R with
    base := w1
    at_ := w2
    obj := ⟨dx, setg_same _ _ _⟩
    looks := R.lk w3 }
theorem Rep.addPut (R : Rep K cE N B H0 H L g E) {n : Int} (h0 : 0 ≤ n) (h1 : n < N) (b : Int) :
    Rep K cE N (B + 1) H0 (upd H (L (.put n)) (.lst ((E.put n ++ [b]).map V.int))) L (setg g (.put n) (.lst ((E.put n ++ [b]).map V.int))) { E with put := setf E.put n (E.put n ++ [b]) } := by
  obtain ⟨w1, w2, w3⟩ := R.wr (t := .put n) ⟨h0, h1⟩ (.lst ((E.put n ++ [b]).map V.int))
  have G := R.grow (Nat.le_succ B)
  exact { G with
    base := w1
    at_ := w2
    put := fun m m0 m1 => by
      show setg g (.put n) _ (.put m) = .lst ((setf E.put n (E.put n ++ [b]) m).map V.int) ∧ (setf E.put n (E.put n ++ [b]) m).length ≤ B + 1
      by_cases h : m = n
      · subst h
        rw [setg_same, setf_same]
        exact ⟨rfl, by rw [List.length_append]; have := (R.put m m0 m1).2; simp; omega⟩
      · rw [setg_ne _ _ (fun z => h (by injection z)), setf_ne _ _ h]
        exact G.put m m0 m1
    looks := G.lk w3 }
theorem Rep.chainPut (R : Rep K cE N B H0 H L g E) {b : Int} {rows : List Int} (hb : E.chain b = some rows) (n : Int) :
    Rep K cE N (B + 1) H0 (upd H (L (.chain b)) (.lst ((rows ++ [n]).map V.int))) L (setg g (.chain b) (.lst ((rows ++ [n]).map V.int))) { E with chain := setf E.chain b (some (rows ++ [n])) } := by
  have hl : Live N E (.chain b) := by show E.chain b ≠ none; rw [hb]; simp
  obtain ⟨w1, w2, w3⟩ := R.wr hl (.lst ((rows ++ [n]).map V.int))
  have G := R.grow (Nat.le_succ B)
  have lv : ∀ s, Live N { E with chain := setf E.chain b (some (rows ++ [n])) } s → Live N E s := by
    intro s hs
    cases s with
    | chain c =>
      show E.chain c ≠ none
      have hs : setf E.chain b (some (rows ++ [n])) c ≠ none := hs
      by_cases h : c = b
      · subst h; rw [hb]; simp
      · rw [setf_ne _ _ h] at hs; exact hs
    | put n => exact hs
    | _ => trivial
  exact { G with
    base := w1
    new := fun s hs => R.new s (lv s hs)
    at_ := fun s hs => w2 s (lv s hs)
    inj := fun s t hs ht => R.inj s t (lv s hs) (lv t ht)
    chains := by
      obtain ⟨kv, a, l, c, d⟩ := G.chains
      refine ⟨kv, a, l, fun m => ?_, d⟩
      rw [c]
      show _ = Option.map _ (setf _ _ _ _)
      by_cases h : m = b
      · subst h; rw [hb, setf_same]; rfl
      · rw [setf_ne _ _ h]
    chain := fun m r hm => by
      have hm : setf E.chain b (some (rows ++ [n])) m = some r := hm
      by_cases h : m = b
      · subst h
        rw [setf_same] at hm; cases hm
        have := (R.chain m rows hb).2
        exact ⟨setg_same _ _ _, by rw [List.length_append]; simp; omega⟩
      · rw [setf_ne _ _ h] at hm
        rw [setg_ne _ _ (fun z => h (by injection z))]
        exact G.chain m r hm
    looks := G.lk w3 }
/-- a chain is laid, empty, at p -/
theorem Rep.newChain (R : Rep K cE N B H0 H L g E) {b : Int} (hb : E.chain b = none) {p : Addr} (hp : H p = none) {kv : List (Key × V)} (e : g .chains = .dK kv) :
    Rep K cE N (B + 1) H0 (upd (upd H p (.lst [])) (L .chains) (.dK (putK kv (.inl b) (.ref p)))) (setL L (.chain b) p) (setg (setg g (.chain b) (.lst [])) .chains (.dK (putK kv (.inl b) (.ref p)))) { E with chain := setf E.chain b (some []) } := by
  have S0 : Same H (upd H p (.lst [])) := same_new hp
  have R1 := R.mono S0
  obtain ⟨w1, w2, w3⟩ := R1.wr (t := .chains) trivial (.dK (putK kv (.inl b) (.ref p)))
  have G := R1.grow (Nat.le_succ B)
  obtain ⟨kv', e', l, hv, ki⟩ := R.chains
  rw [e] at e'; cases e'
  have nb : ¬ Live N E (.chain b) := fun z => z hb
  have lv : ∀ s, s ≠ .chain b → Live N { E with chain := setf E.chain b (some []) } s → Live N E s := by
    intro s hn hs
    cases s with
    | chain c =>
      show E.chain c ≠ none
      have hs : setf E.chain b (some []) c ≠ none := hs
      rw [setf_ne _ _ (fun h => hn (by rw [h]))] at hs; exact hs
    | put n => exact hs
    | _ => trivial
  have np : ∀ s, Live N E s → L s ≠ p := fun s hs z => by
    have := R.at_ s hs
    rw [z, hp] at this; cases this
  have hp0 : H0 p = none := by
    cases h : H0 p with
    | none => rfl
    | some o => rw [R.base p o h] at hp; cases hp
  exact { G with
    base := w1
    new := fun s hs => by
      by_cases h : s = .chain b
      · rw [h, setL_same]; exact hp0
      · rw [setL_ne _ _ h]; exact R.new s (lv s h hs)
    at_ := fun s hs => by
      by_cases h : s = .chain b
      · subst h
        rw [setL_same, upd_ne (np .chains trivial).symm, upd_same, setg_ne _ _ (by intro z; cases z), setg_same]
      · rw [setL_ne _ _ h, w2 s (lv s h hs)]
        by_cases h2 : s = .chains
        · subst h2; rw [setg_same, setg_same]
        · rw [setg_ne _ _ h2, setg_ne _ _ h2, setg_ne _ _ h]
    inj := fun s t hs ht hst => by
      by_cases h : s = .chain b
      · by_cases h2 : t = .chain b
        · rw [h, h2]
        · rw [h, setL_same, setL_ne _ _ h2] at hst
          exact absurd hst.symm (np t (lv t h2 ht))
      · by_cases h2 : t = .chain b
        · rw [h2, setL_same, setL_ne _ _ h] at hst
          exact absurd hst (np s (lv s h hs))
        · rw [setL_ne _ _ h, setL_ne _ _ h2] at hst
          exact R.inj s t (lv s h hs) (lv t h2 ht) hst
    chains := by
      refine ⟨_, setg_same _ _ _, put_len _ _ _ l, fun m => ?_, ki.put _ _⟩
      rw [valV_put, hv]
      show _ = Option.map (fun _ => V.ref (setL L (.chain b) p (.chain m))) (setf _ _ _ _)
      by_cases h : m = b
      · subst h; rw [if_pos rfl, setf_same, setL_same]; rfl
      · rw [if_neg (fun z => h (by injection z)), setf_ne _ _ h, setL_ne _ _ (fun z => h (by injection z))]
    chain := fun m r hm => by
      have hm : setf E.chain b (some []) m = some r := hm
      by_cases h : m = b
      · subst h
        rw [setf_same] at hm; cases hm
        exact ⟨by rw [setg_ne _ _ (by intro z; cases z), setg_same]; rfl, Nat.zero_le _⟩
      · rw [setf_ne _ _ h] at hm
        rw [setg_ne _ _ (by intro z; cases z), setg_ne _ _ (fun z => h (by injection z))]
        exact G.chain m r hm
    looks := by
      obtain ⟨lk, a, c, d⟩ := G.lk w3
      exact ⟨lk, by rw [setg_ne _ _ (by intro z; cases z), setg_ne _ _ (by intro z; cases z)]; exact a, c, d⟩ }
/-- a number is entered -/
theorem Rep.enter (R : Rep K cE N B H0 H L g E) (hE : E.put N = []) {p : Addr} (hp : H p = none) {kv ku : List (Key × V)} (e : g .grades = .dK kv) (eu : g .puts = .dK ku) :
    Rep K cE (N + 1) (B + 1) H0 (upd (upd (upd H (L .grades) (.dK (putK kv (.inl N) (.str (lvS (E.grade N)))))) p (.lst [])) (L .puts) (.dK (putK ku (.inl N) (.ref p)))) (setL L (.put N) p)
      (setg (setg (setg g .grades (.dK (putK kv (.inl N) (.str (lvS (E.grade N)))))) (.put N) (.lst [])) .puts (.dK (putK ku (.inl N) (.ref p)))) E := by
  obtain ⟨w1, w2, w3⟩ := R.wr (t := .grades) trivial (.dK (putK kv (.inl N) (.str (lvS (E.grade N)))))
  have np : ∀ s, Live N E s → L s ≠ p := fun s hs z => by
    have := R.at_ s hs
    rw [z, hp] at this; cases this
  have hp0 : H0 p = none := by
    cases h : H0 p with
    | none => rfl
    | some o => rw [R.base p o h] at hp; cases hp
  have hp1 : upd H (L .grades) (.dK (putK kv (.inl N) (.str (lvS (E.grade N))))) p = none := by rw [upd_ne (np .grades trivial).symm]; exact hp
  obtain ⟨kv', e', l, hv⟩ := R.grades
  rw [e] at e'; cases e'
  obtain ⟨ku', eu', lu, hvu⟩ := R.puts
  rw [eu] at eu'; cases eu'
  have G := R.grow (Nat.le_succ B)
  have lv : ∀ s, s ≠ .put N → Live (N + 1) E s → Live N E s := by
    intro s hn hs
    cases s with
    | chain c => exact hs
    | put n =>
      obtain ⟨a, b⟩ : 0 ≤ n ∧ n < ((N + 1 : Nat) : Int) := hs
      have : n ≠ (N : Int) := fun z => hn (by rw [z])
      exact ⟨a, by omega⟩
    | _ => trivial
  have S2 := same_new (o := .lst []) hp1
  have w4 : TupS (upd (upd H (L .grades) (.dK (putK kv (.inl N) (.str (lvS (E.grade N)))))) p (.lst [])) (upd (upd (upd H (L .grades) (.dK (putK kv (.inl N) (.str (lvS (E.grade N)))))) p (.lst [])) (L .puts) (.dK (putK ku (.inl N) (.ref p)))) := by
    refine TupS.dK (xs := ku) ?_
    rw [upd_ne (np .puts trivial), w2 .puts trivial, setg_ne _ _ (by intro z; cases z), eu]
  exact { G with
    base := same_upd (w1.trans S2) (R.new .puts trivial)
    new := fun s hs => by
      by_cases h : s = .put N
      · rw [h, setL_same]; exact hp0
      · rw [setL_ne _ _ h]; exact R.new s (lv s h hs)
    at_ := fun s hs => by
      by_cases h : s = .put N
      · subst h
        rw [setL_same, upd_ne (np .puts trivial).symm, upd_same, setg_ne _ _ (by intro z; cases z), setg_same]
      · rw [setL_ne _ _ h]
        by_cases h2 : s = .puts
        · subst h2; rw [upd_same, setg_same]
        · have hl := lv s h hs
          rw [upd_ne (fun z => h2 (R.inj _ _ hl trivial z)), upd_ne (np s hl), w2 s hl, setg_ne _ _ h2, setg_ne _ _ h]
    inj := fun s t hs ht hst => by
      by_cases h : s = .put N
      · by_cases h2 : t = .put N
        · rw [h, h2]
        · rw [h, setL_same, setL_ne _ _ h2] at hst
          exact absurd hst.symm (np t (lv t h2 ht))
      · by_cases h2 : t = .put N
        · rw [h2, setL_same, setL_ne _ _ h] at hst
          exact absurd hst (np s (lv s h hs))
        · rw [setL_ne _ _ h, setL_ne _ _ h2] at hst
          exact R.inj s t (lv s h hs) (lv t h2 ht) hst
    grades := by
      refine ⟨_, by rw [setg_ne _ _ (by intro z; cases z), setg_ne _ _ (by intro z; cases z), setg_same], put_len _ _ _ l, fun n n0 n1 => ?_⟩
      rw [valV_put]
      by_cases h : n = N
      · subst h; rw [if_pos rfl]
      · rw [if_neg (fun z => h (by injection z))]; exact hv n n0 (by omega)
    puts := by
      refine ⟨_, setg_same _ _ _, put_len _ _ _ lu, fun n n0 n1 => ?_⟩
      rw [valV_put]
      by_cases h : n = N
      · subst h; rw [if_pos rfl, setL_same]
      · rw [if_neg (fun z => h (by injection z)), setL_ne _ _ (fun z => h (by injection z))]; exact hvu n n0 (by omega)
    put := fun n n0 n1 => by
      by_cases h : n = N
      · subst h; rw [setg_ne _ _ (by intro z; cases z), setg_same, hE]; exact ⟨rfl, Nat.zero_le _⟩
      · rw [setg_ne _ _ (by intro z; cases z), setg_ne _ _ (fun z => h (by injection z)), setg_ne _ _ (by intro z; cases z)]; exact G.put n n0 (by omega)
    chain := fun m r hm => by
      rw [setg_ne _ _ (by intro z; cases z), setg_ne _ _ (by intro z; cases z), setg_ne _ _ (by intro z; cases z)]
      exact G.chain m r hm
    looks := by
      obtain ⟨lk, a, c, d⟩ := G.lk ((w3.trans (TupS.of S2)).trans w4)
      exact ⟨lk, by rw [setg_ne _ _ (by intro z; cases z), setg_ne _ _ (by intro z; cases z), setg_ne _ _ (by intro z; cases z)]; exact a, c, d⟩ }
end
end K60

set_option Elab.async false
set_option linter.all false
set_option maxRecDepth 100000
set_option maxHeartbeats 8000000
/-! K60V: the reading methods of an engine. -/
namespace K60
open PySem L2 PySem.Spec
theorem getD_map (o : Option Int) (d : Int) : (o.map V.int).getD (V.int d) = V.int (o.getD d) := by cases o <;> rfl
section
variable {P : Program} {w : World} {K : PySem.W.Frag} {mg : Str → Option Value} {base : Heap} {cC cE cR : Addr}
def spStartOf (K : PySem.W.Frag) (cE : Addr) : Sp := fun vs H Q _ => ∃ (N B : Nat) (H0 : Hp) (L : Slot → Addr) (g : Slot → HO) (E : Eng) (n : Int), vs = [.ref (L .obj), .int n] ∧ Rep K cE N B H0 H L g E ∧ Q (.int (E.startOf n)) H
def spStopOf (K : PySem.W.Frag) (cE : Addr) : Sp := fun vs H Q _ => ∃ (N B : Nat) (H0 : Hp) (L : Slot → Addr) (g : Slot → HO) (E : Eng) (n : Int), vs = [.ref (L .obj), .int n] ∧ Rep K cE N B H0 H L g E ∧ Q (.int (E.stopOf n)) H
theorem u1_of {k : Nat} {A : Around} (r : Room k A) : A.units + 1 < cLine := by have := r.un; omega
theorem ok_start_of {f : Addr} {fd : FuncData} (F : Fun K "start_of" "Engine.start_of" sEngine_start_of f fd) (T : Facts K mg cC cE cR) : FnOk P w K mg base CX0 1 f fd ["self", "number"] (spStartOf K cE) := by
  refine F.ok sc_Engine_start_of (fun vs H Q E h => ?_) (fun cdv A outer s H vs Q E hr h => ?_)
  · obtain ⟨N, B, H0, L, g, E, n, rfl, _⟩ := h; rfl
  · obtain ⟨N, B, H0, L, g, E, n, rfl, R, k⟩ := h
    refine ⟨_, pss_one (ps_ret (pe_dget2 (u1_of hr) (pe_fld (pv 0) rfl) (pv 1) (pe_op op_add (pe_fld (pv 0) rfl) pe_int) ⟨rfl, rfl, rfl, rfl⟩)), ?_⟩
    obtain ⟨dx, ho⟩ := R.obj
    have hO := R.at_ .obj trivial
    rw [ho] at hO
    obtain ⟨kv, hk, hl, hv⟩ := R.starts
    have hS := R.at_ .starts trivial
    rw [hk] at hS
    refine ⟨_, rfl, _, _, _, _, _, rfl, hO, T.clEngine, T.nEngine_starts, rfl, L .starts, rfl, .inl ⟨_, .inl hS⟩, ?_⟩
    refine ⟨_, rfl, _, rfl, _, _, _, _, _, rfl, hO, T.clEngine, T.nEngine_moment, rfl, _, _, rfl, rfl, _, DGet.k (k := .inl n) hS, ?_⟩
    rw [hv, getD_map]
    exact k
theorem ok_stop_of {f : Addr} {fd : FuncData} (F : Fun K "stop_of" "Engine.stop_of" sEngine_stop_of f fd) (T : Facts K mg cC cE cR) : FnOk P w K mg base CX0 1 f fd ["self", "number"] (spStopOf K cE) := by
  refine F.ok sc_Engine_stop_of (fun vs H Q E h => ?_) (fun cdv A outer s H vs Q E hr h => ?_)
  · obtain ⟨N, B, H0, L, g, E, n, rfl, _⟩ := h; rfl
  · obtain ⟨N, B, H0, L, g, E, n, rfl, R, k⟩ := h
    refine ⟨_, pss_one (ps_ret (pe_dget2 (u1_of hr) (pe_fld (pv 0) rfl) (pv 1) (pe_op op_add (pe_fld (pv 0) rfl) pe_int) ⟨rfl, rfl, rfl, rfl⟩)), ?_⟩
    obtain ⟨dx, ho⟩ := R.obj
    have hO := R.at_ .obj trivial
    rw [ho] at hO
    obtain ⟨kv, hk, hl, hv, _⟩ := R.stops
    have hS := R.at_ .stops trivial
    rw [hk] at hS
    refine ⟨_, rfl, _, _, _, _, _, rfl, hO, T.clEngine, T.nEngine_stops, rfl, L .stops, rfl, .inl ⟨_, .inl hS⟩, ?_⟩
    refine ⟨_, rfl, _, rfl, _, _, _, _, _, rfl, hO, T.clEngine, T.nEngine_moment, rfl, _, _, rfl, rfl, _, DGet.k (k := .inl n) hS, ?_⟩
    rw [hv, getD_map]
    exact k
theorem Rep.objF {N B : Nat} {H0 H : Hp} {L : Slot → Addr} {g : Slot → HO} {E : Eng} (R : Rep K cE N B H0 H L g E) : ∃ dx, H (L .obj) = some (.ins cE dx (engFs L E.mom)) := by
  obtain ⟨dx, h⟩ := R.obj
  exact ⟨dx, by rw [R.at_ .obj trivial, h]⟩
theorem Rep.gradeD {N B : Nat} {H0 H : Hp} {L : Slot → Addr} {g : Slot → HO} {E : Eng} (R : Rep K cE N B H0 H L g E) {n : Int} (h0 : 0 ≤ n) (h1 : n < N) : DGet H (L .grades) (.int n) (some (.str (lvS (E.grade n)))) := by
  obtain ⟨kv, hk, _, hv⟩ := R.grades
  have hS := R.at_ .grades trivial
  rw [hk] at hS
  have := DGet.k (k := .inl n) hS
  rwa [hv n h0 h1] at this
theorem Rep.stopD {N B : Nat} {H0 H : Hp} {L : Slot → Addr} {g : Slot → HO} {E : Eng} (R : Rep K cE N B H0 H L g E) (n : Int) : DGet H (L .stops) (.int n) ((E.stop n).map V.int) := by
  obtain ⟨kv, hk, _, hv, _⟩ := R.stops
  have hS := R.at_ .stops trivial
  rw [hk] at hS
  have := DGet.k (k := .inl n) hS
  rwa [hv n] at this
theorem Rep.holdD {N B : Nat} {H0 H : Hp} {L : Slot → Addr} {g : Slot → HO} {E : Eng} (R : Rep K cE N B H0 H L g E) (n : Int) : IsD H (L .holders) ∧ DGet H (L .holders) (.int n) ((E.hold n).map V.int) := by
  obtain ⟨kv, hk, _, hv⟩ := R.holders
  have hS := R.at_ .holders trivial
  rw [hk] at hS
  have := DGet.k (k := .inl n) hS
  rw [hv n] at this
  exact ⟨.inl ⟨_, .inl hS⟩, this⟩
theorem Rep.chainD {N B : Nat} {H0 H : Hp} {L : Slot → Addr} {g : Slot → HO} {E : Eng} (R : Rep K cE N B H0 H L g E) (b : Int) : IsD H (L .chains) ∧ DGet H (L .chains) (.int b) ((E.chain b).map fun _ => V.ref (L (.chain b))) := by
  obtain ⟨kv, hk, _, hv, _⟩ := R.chains
  have hS := R.at_ .chains trivial
  rw [hk] at hS
  have := DGet.k (k := .inl b) hS
  rw [hv b] at this
  exact ⟨.inl ⟨_, .inl hS⟩, this⟩
theorem Rep.putD {N B : Nat} {H0 H : Hp} {L : Slot → Addr} {g : Slot → HO} {E : Eng} (R : Rep K cE N B H0 H L g E) {n : Int} (h0 : 0 ≤ n) (h1 : n < N) : DGet H (L .puts) (.int n) (some (.ref (L (.put n)))) ∧ H (L (.put n)) = some (.lst ((E.put n).map V.int)) := by
  obtain ⟨kv, hk, _, hv⟩ := R.puts
  have hS := R.at_ .puts trivial
  rw [hk] at hS
  have := DGet.k (k := .inl n) hS
  rw [hv n h0 h1] at this
  refine ⟨this, ?_⟩
  rw [R.at_ (.put n) ⟨h0, h1⟩, (R.put n h0 h1).1]
theorem Rep.sightD {N B : Nat} {H0 H : Hp} {L : Slot → Addr} {g : Slot → HO} {E : Eng} (R : Rep K cE N B H0 H L g E) {a b : Int} {t : Addr} (ht : H t = some (.tup [.int a, .int b])) : DGet H (L .sights) (.ref t) ((E.sight a b).map V.int) := by
  obtain ⟨kv, hk, _, hv⟩ := R.sights
  have hS := R.at_ .sights trivial
  rw [hk] at hS
  have := DGet.t (k := [.inl a, .inl b]) hS ht
  rw [hv a b] at this
  exact this
/-- a box's rows: its chain's, or a new list -/
theorem Rep.rowsAt {N B : Nat} {H0 H : Hp} {L : Slot → Addr} {g : Slot → HO} {E : Eng} (R : Rep K cE N B H0 H L g E) {p : Addr} (hp : H p = none) (b : Int) :
    ∃ r, ((E.chain b).map fun _ => V.ref (L (.chain b))).getD (.ref p) = .ref r ∧ (upd H p (.lst [])) r = some (.lst ((E.rows b).map V.int)) := by
  unfold Eng.rows
  cases e : E.chain b with
  | none => exact ⟨p, rfl, upd_same⟩
  | some rows =>
    refine ⟨L (.chain b), rfl, (same_new hp) _ _ ?_⟩
    have hl : Live N E (.chain b) := by show E.chain b ≠ none; rw [e]; simp
    rw [R.at_ _ hl, (R.chain b rows e).1]; rfl
def spNewest (K : PySem.W.Frag) (cE : Addr) : Sp := fun vs H Q _ => ∃ (N B : Nat) (H0 : Hp) (L : Slot → Addr) (g : Slot → HO) (E : Eng) (n b : Int), vs = [.ref (L .obj), .int n, .int b] ∧ Rep K cE N B H0 H L g E ∧ 0 ≤ n ∧ n < N ∧ (∀ x ∈ E.rows b, E.stop x ≠ none) ∧
  ∀ H', Same H H' → Q (.int (E.newest n b)) H'
theorem ok_newest {f : Addr} {fd : FuncData} (F : Fun K "newest" "Engine.newest" sEngine_newest f fd) (T : Facts K mg cC cE cR) (m1 : C8.Met P w K mg base 1 cE "start_of" (spStartOf K cE) []) : FnOk P w K mg base CX0 2 f fd ["self", "number", "box"] (spNewest K cE) := by
  refine F.ok sc_Engine_newest (fun vs H Q E h => ?_) (fun cdv A outer s H vs Q E hr h => ?_)
  · obtain ⟨N, B, H0, L, g, E, n, b, rfl, _⟩ := h; rfl
  · obtain ⟨N, B, H0, L, g, E, n, b, rfl, R, h0, h1, hs, k⟩ := h
    have nd := sc_Engine_newest.nd
    have hu1 := u1_of hr
    refine ⟨_, pss_cons (ps_set (i := 3) nd rfl (Or.inl rfl) (C8.pe_gc rfl T.k_NOBODY))
      (pss_cons (ps_for PassesOwn.never rfl (pi_list (pe_dget2 hu1 (pe_fld (pv 0) rfl) (pv 2) (pe_lst pa_nil) ⟨rfl, rfl, rfl, rfl⟩)) (pg_name (i := 4) nd rfl (Or.inl rfl))
        (pss_one (ps_if (PW.pt (pw_or (pt_cmpR op_eq (pe_dget hu1 (pe_fld (pv 0) rfl) (pv 1) (fun _ _ => rfl)) pe_str (nomark _))
          (pw_or1 (pt_cmpR op_lt (pe_dget hu1 (pe_fld (pv 0) rfl) (pv 4) (fun _ _ => rfl)) (C8.pe_mt m1 hr (by decide) (pv 0) (pa_cons (pv 1) pa_nil)) (nomark _)))))
          (pss_one (ps_set (i := 3) nd rfl (Or.inl rfl) (pv 4))) pss_nil)))
      (pss_one (ps_ret (pv 3)))), ?_⟩
    obtain ⟨dx, hO⟩ := R.objF
    obtain ⟨d1, d2⟩ := R.chainD b
    refine ⟨_, rfl, _, _, _, _, _, rfl, hO, T.clEngine, T.nEngine_chains, rfl, L .chains, rfl, d1, _, rfl, Nat.zero_le _, fun p hp => ?_⟩
    have Sp := same_new (o := .lst []) hp
    have R1 := R.mono Sp
    obtain ⟨r, er, hr'⟩ := R.rowsAt hp b
    refine ⟨_, (R1.chainD b).2, ?_⟩
    rw [er]
    refine ⟨r, rfl, ⟨_, SqL.of hr'⟩, for_list (K := K) (a := r) (xs := (E.rows b).map V.int)
      (fun i σ H' => ∃ o, σ = [some (.ref (L .obj)), some (.int n), some (.int b), some (.int (((E.rows b).take i).foldl (fun f w => if E.seesB n w = true then w else f) (-1))), o] ∧ Same (upd H p (.lst [])) H')
      ⟨none, rfl, Same.refl _⟩ (fun i σ H' _ ⟨_, _, S⟩ => S.seq (SqL.of hr')) ?_ ?_⟩
    · rintro i y σ H2 hy ⟨o, rfl, S⟩
      obtain ⟨x, hx, rfl⟩ := ints_get hy
      have R2 := R1.mono S
      obtain ⟨dx2, hO2⟩ := R2.objF
      have step : ((E.rows b).take (i + 1)).foldl (fun f w => if E.seesB n w = true then w else f) (-1) = if E.seesB n x = true then x else ((E.rows b).take i).foldl (fun f w => if E.seesB n w = true then w else f) (-1) := by
        rw [List.take_add_one, hx, Option.toList_some, List.foldl_append]; rfl
      refine ⟨_, rfl, _, _, _, _, _, rfl, hO2, T.clEngine, T.nEngine_grades, rfl, _, rfl, L .grades, _, rfl, R2.gradeD h0 h1, rfl, ?_⟩
      by_cases hl : E.grade n = .lax
      · refine ⟨true, congrArg V.bl (by rw [lv_lax, hl]; rfl), iteT (iteT ?_)⟩
        have e : E.seesB n x = true := by simp [Eng.seesB, hl]
        rw [if_pos e] at step
        exact ⟨_, rfl, _, by rw [step]; rfl, S⟩
      · refine ⟨false, congrArg V.bl (by rw [lv_lax]; simp [hl]), iteF ?_⟩
        obtain ⟨t, ht⟩ := Option.ne_none_iff_exists'.mp (hs x (List.mem_of_getElem? hx))
        have hd := R2.stopD x
        rw [ht] at hd
        refine ⟨_, rfl, _, _, _, _, _, rfl, hO2, T.clEngine, T.nEngine_stops, rfl, _, rfl, L .stops, _, rfl, hd, ?_⟩
        refine ⟨_, rfl, L .obj, dx2, _, rfl, hO2, rfl, _, rfl, N, B, H0, L, g, E, n, rfl, R2, _, _, rfl, rfl, ?_⟩
        have e : E.seesB n x = decide (t < E.startOf n) := by simp [Eng.seesB, hl, ht]
        refine ⟨_, rfl, ?_⟩
        rw [← e]
        by_cases c : E.seesB n x = true
        · rw [if_pos c] at step ⊢
          exact ⟨_, rfl, _, by rw [step]; rfl, S⟩
        · rw [if_neg c] at step ⊢
          exact ⟨_, by rw [step]; rfl, S⟩
    · rintro σ H2 ⟨o, rfl, S⟩
      rw [List.length_map, List.take_length]
      exact ⟨_, rfl, k H2 (Sp.trans S)⟩
theorem eqv_int (a b : Int) : PyData.eqv (.int a) (.int b) = decide (a = b) := by
  rw [Bool.eq_iff_iff]
  simp [PyData.eqv]
theorem int_shaped (a : Int) : SeqAt.shaped (.int a) = true := by simp [SeqAt.shaped, PyData.canLay0, PyData.depth]
def spRank (K : PySem.W.Frag) (cE : Addr) : Sp := fun vs H Q _ => ∃ (N B : Nat) (H0 : Hp) (L : Slot → Addr) (g : Slot → HO) (E : Eng) (b x : Int), vs = [.ref (L .obj), .int b, .int x] ∧ Rep K cE N B H0 H L g E ∧
  ∀ H', Same H H' → Q (.int (E.rank b x)) H'
theorem ok_rank {f : Addr} {fd : FuncData} (F : Fun K "rank" "Engine.rank" sEngine_rank f fd) (T : Facts K mg cC cE cR) : FnOk P w K mg base CX0 1 f fd ["self", "box", "whose"] (spRank K cE) := by
  refine F.ok sc_Engine_rank (fun vs H Q E h => ?_) (fun cdv A outer s H vs Q E hr h => ?_)
  · obtain ⟨N, B, H0, L, g, E, b, x, rfl, _⟩ := h; rfl
  · obtain ⟨N, B, H0, L, g, E, b, x, rfl, R, k⟩ := h
    have nd := sc_Engine_rank.nd
    have hu1 := u1_of hr
    have hu65 := hu65_of hr
    refine ⟨_, pss_cons (ps_if (pt_cmpR op_eq (pv 2) (C8.pe_gc rfl T.k_NOBODY) (nomark _)) (pss_one (ps_ret (pe_un un_neg pe_int))) pss_nil)
      (pss_cons (ps_set (i := 3) nd rfl (Or.inl rfl) (pe_dget2 hu1 (pe_fld (pv 0) rfl) (pv 1) (pe_lst pa_nil) ⟨rfl, rfl, rfl, rfl⟩))
      (pss_one (ps_ret (pe_ifExp (pt_cmpR op_in_seq (pv 2) (pv 3) (by rfl)) (pe_bm PySem.F.plainAttrs_list PySem.F.slot_list_index PySem.F.type_list_index (mt_indexD hu65) (pv 3) (pa_cons (pv 2) pa_nil))
        (pe_callB call_len_seq (by rfl) T.z_len PySem.boot_len (pa_cons (pv 3) pa_nil)))))), ?_⟩
    refine ⟨_, rfl, rfl, ?_⟩
    by_cases hx : x = -1
    · subst hx
      refine ⟨true, rfl, iteT ?_⟩
      exact ⟨_, rfl, k H (Same.refl H)⟩
    refine ⟨false, congrArg V.bl (decide_eq_false (by intro z; injection z with z; exact hx z)), iteF ?_⟩
    obtain ⟨dx, hO⟩ := R.objF
    obtain ⟨d1, d2⟩ := R.chainD b
    refine ⟨_, rfl, _, _, _, _, _, rfl, hO, T.clEngine, T.nEngine_chains, rfl, L .chains, rfl, d1, _, rfl, Nat.zero_le _, fun p hp => ?_⟩
    have Sp := same_new (o := .lst []) hp
    have R1 := R.mono Sp
    obtain ⟨r, er, hr'⟩ := R.rowsAt hp b
    refine ⟨_, (R1.chainD b).2, ?_⟩
    rw [er]
    refine ⟨_, rfl, _, rfl, r, _, rfl, .inl (SqL.of hr'), rfl, flat_ints _, inV (.int x) ((E.rows b).map V.int), rfl, ?_⟩
    have kk := k _ Sp
    unfold Eng.rank at kk
    rw [if_neg hx] at kk
    rw [inV_ints]
    by_cases hm : x ∈ E.rows b
    · rw [decide_eq_true hm]
      refine iteT ⟨_, rfl, .inl ⟨rfl, _, SqL.of hr'⟩, _, rfl, r, _, .int x, _, (E.rows b).idxOf x, .int x, rfl, rfl, .lst (SqL.of hr') (ints_dp _), .int x, ints_shaped _, int_shaped x, ?_, by rw [eqv_int]; simp, ?_, kk⟩
      · have hi : (E.rows b).idxOf x < (E.rows b).length := List.idxOf_lt_length_iff.mpr hm
        rw [List.getElem?_map, List.getElem?_eq_getElem hi, List.getElem_idxOf hi]; rfl
      · intro m z hmj hz
        rw [List.getElem?_map] at hz
        cases e : (E.rows b)[m]? with
        | none => rw [e] at hz; cases hz
        | some y =>
          rw [e] at hz; cases hz
          rw [eqv_int]
          refine decide_eq_false fun z => ?_
          subst z
          have := List.not_of_lt_findIdx hmj
          obtain ⟨h1, h2⟩ := List.getElem?_eq_some_iff.mp e
          rw [h2] at this
          simp at this
    · rw [decide_eq_false hm]
      refine iteF ⟨_, rfl, r, _, rfl, .inl (SqL.of hr'), ?_⟩
      rw [List.length_map]
      rw [List.idxOf_eq_length hm] at kk
      exact kk
def spPast (K : PySem.W.Frag) (cE : Addr) : Sp := fun vs H Q _ => ∃ (N B : Nat) (H0 : Hp) (L : Slot → Addr) (g : Slot → HO) (E : Eng) (a b : Int), vs = [.ref (L .obj), .int a, .int b] ∧ Rep K cE N B H0 H L g E ∧ 0 ≤ b ∧ b < N ∧
  ∀ H', Same H H' → Q (.bl (E.goesPast a b)) H'
theorem ok_goes_past {f : Addr} {fd : FuncData} (F : Fun K "goes_past" "Engine.goes_past" sEngine_goes_past f fd) (T : Facts K mg cC cE cR) (m1 : C8.Met P w K mg base 1 cE "rank" (spRank K cE) []) : FnOk P w K mg base CX0 2 f fd ["self", "one", "other"] (spPast K cE) := by
  refine F.ok sc_Engine_goes_past (fun vs H Q E h => ?_) (fun cdv A outer s H vs Q E hr h => ?_)
  · obtain ⟨N, B, H0, L, g, E, a, b, rfl, _⟩ := h; rfl
  · obtain ⟨N, B, H0, L, g, E, a, b, rfl, R, h0, h1, k⟩ := h
    have nd := sc_Engine_goes_past.nd
    have hu1 := u1_of hr
    refine ⟨_, pss_cons (ps_for PassesOwn.never rfl (pi_list (pe_dget hu1 (pe_fld (pv 0) rfl) (pv 2) (fun _ _ => rfl))) (pg_name (i := 3) nd rfl (Or.inl rfl))
        (pss_one (ps_if (PW.pt (pw_and (pt_cmp (pc_din hu1 (pe_tup (pa_cons (pv 1) (pa_cons (pv 3) pa_nil))) (pe_fld (pv 0) rfl)))
          (pw_and1 (pt_cmpR op_lt (C8.pe_mt m1 hr (by decide) (pv 0) (pa_cons (pv 3) (pa_cons (pe_dget hu1 (pe_fld (pv 0) rfl) (pe_tup (pa_cons (pv 1) (pa_cons (pv 3) pa_nil))) (fun _ _ => rfl)) pa_nil))) (C8.pe_mt m1 hr (by decide) (pv 0) (pa_cons (pv 3) (pa_cons (pv 2) pa_nil))) (nomark _)))))
          (pss_one (ps_ret pe_bl)) pss_nil)))
      (pss_one (ps_ret pe_bl)), ?_⟩
    obtain ⟨dx, hO⟩ := R.objF
    obtain ⟨p1, p2⟩ := R.putD h0 h1
    refine ⟨_, rfl, _, _, _, _, _, rfl, hO, T.clEngine, T.nEngine_puts, rfl, _, rfl, L .puts, _, rfl, p1, _, rfl, ⟨_, SqL.of p2⟩, for_list (K := K) (a := L (.put b)) (xs := (E.put b).map V.int)
      (fun i σ H' => ∃ o, σ = [some (.ref (L .obj)), some (.int a), some (.int b), o] ∧ Same H H' ∧ ((E.put b).take i).any (fun x => E.pastB a b x) = false)
      ⟨none, rfl, Same.refl _, rfl⟩ (fun i σ H' _ ⟨_, _, S, _⟩ => S.seq (SqL.of p2)) ?_ ?_⟩
    · rintro i y σ H2 hy ⟨o, rfl, S, hno⟩
      obtain ⟨x, hx, rfl⟩ := ints_get hy
      have e1 : (E.put b).take (i + 1) = (E.put b).take i ++ [x] := by rw [List.take_add_one, hx]; rfl
      have step : ((E.put b).take (i + 1)).any (fun x => E.pastB a b x) = E.pastB a b x := by
        rw [e1, List.any_append, hno]; simp
      have R2 := R.mono S
      refine ⟨_, rfl, _, rfl, Nat.le_of_ble_eq_true rfl, fun t ht => ?_⟩
      have St := same_new (o := .tup [.int a, .int x]) ht
      have R3 := R2.mono St
      obtain ⟨dx3, hO3⟩ := R3.objF
      refine ⟨_, rfl, _, _, _, _, _, rfl, hO3, T.clEngine, T.nEngine_sights, rfl, L .sights, _, rfl, R3.sightD upd_same, _, rfl, ?_⟩
      cases hsi : E.sight a x with
      | none =>
        have e : E.pastB a b x = false := by simp [Eng.pastB, hsi]
        exact iteF (iteF ⟨_, rfl, S.trans St, by rw [step, e]⟩)
      | some v =>
        refine iteT ?_
        refine ⟨_, rfl, L .obj, dx3, _, rfl, hO3, rfl, _, rfl, _, rfl, _, _, _, _, _, rfl, hO3, T.clEngine, T.nEngine_sights, rfl, _, rfl, _, rfl, Nat.le_of_ble_eq_true rfl, fun t2 ht2 => ?_⟩
        have St2 := same_new (o := .tup [.int a, .int x]) ht2
        have R4 := R3.mono St2
        have hd := R4.sightD (a := a) (b := x) upd_same
        rw [hsi] at hd
        refine ⟨L .sights, _, rfl, hd, N, B, H0, L, g, E, x, v, rfl, R4, fun H5 S5 => ?_⟩
        have R5 := R4.mono S5
        obtain ⟨dx5, hO5⟩ := R5.objF
        refine ⟨_, rfl, L .obj, dx5, _, rfl, hO5, rfl, _, rfl, _, rfl, N, B, H0, L, g, E, x, b, rfl, R5, fun H6 S6 => ?_⟩
        have Sall := (((S.trans St).trans St2).trans S5).trans S6
        have e : E.pastB a b x = decide (E.rank x v < E.rank x b) := by simp [Eng.pastB, hsi]
        refine ⟨_, _, rfl, rfl, _, rfl, ?_⟩
        rw [← e]
        show if E.pastB a b x = true then _ else _
        by_cases c : E.pastB a b x = true
        · rw [if_pos c]
          have hg : E.goesPast a b = true := by
            unfold Eng.goesPast
            exact List.any_eq_true.mpr ⟨x, List.mem_of_getElem? hx, c⟩
          have := k _ Sall
          rw [hg] at this
          exact this
        · rw [if_neg c]
          exact ⟨_, rfl, Sall, by rw [step]; simpa using c⟩
    · rintro σ H2 ⟨o, rfl, S, hno⟩
      rw [List.length_map, List.take_length] at hno
      have := k _ S
      unfold Eng.goesPast at this
      rw [hno] at this
      exact this
def spOverlap (K : PySem.W.Frag) (cE : Addr) : Sp := fun vs H Q _ => ∃ (N B : Nat) (H0 : Hp) (L : Slot → Addr) (g : Slot → HO) (E : Eng) (a b : Int), vs = [.ref (L .obj), .int a, .int b] ∧ Rep K cE N B H0 H L g E ∧ Q (.bl (E.overlap a b)) H
theorem ok_overlap {f : Addr} {fd : FuncData} (F : Fun K "overlap" "Engine.overlap" sEngine_overlap f fd) (T : Facts K mg cC cE cR) (m1 : C8.Met P w K mg base 1 cE "start_of" (spStartOf K cE) []) (m2 : C8.Met P w K mg base 1 cE "stop_of" (spStopOf K cE) []) : FnOk P w K mg base CX0 2 f fd ["self", "one", "other"] (spOverlap K cE) := by
  refine F.ok sc_Engine_overlap (fun vs H Q E h => ?_) (fun cdv A outer s H vs Q E hr h => ?_)
  · obtain ⟨N, B, H0, L, g, E, a, b, rfl, _⟩ := h; rfl
  · obtain ⟨N, B, H0, L, g, E, a, b, rfl, R, k⟩ := h
    refine ⟨_, pss_one (ps_ret (pe_and (pe_cmpR op_lt (C8.pe_mt m1 hr (by decide) (pv 0) (pa_cons (pv 1) pa_nil)) (C8.pe_mt m2 hr (by decide) (pv 0) (pa_cons (pv 2) pa_nil)) (nomark _))
      (pe_one (pe_cmpR op_lt (C8.pe_mt m1 hr (by decide) (pv 0) (pa_cons (pv 2) pa_nil)) (C8.pe_mt m2 hr (by decide) (pv 0) (pa_cons (pv 1) pa_nil)) (nomark _))))), ?_⟩
    obtain ⟨dx, hO⟩ := R.objF
    refine ⟨_, rfl, L .obj, dx, _, rfl, hO, rfl, _, rfl, N, B, H0, L, g, E, a, rfl, R, ?_⟩
    refine ⟨_, rfl, L .obj, dx, _, rfl, hO, rfl, _, rfl, N, B, H0, L, g, E, b, rfl, R, ?_⟩
    refine ⟨_, _, rfl, rfl, decide (E.startOf a < E.stopOf b), rfl, ?_⟩
    unfold Eng.overlap at k
    by_cases c : E.startOf a < E.stopOf b
    · rw [decide_eq_true c] at k ⊢
      refine iteT ?_
      refine ⟨_, rfl, L .obj, dx, _, rfl, hO, rfl, _, rfl, N, B, H0, L, g, E, b, rfl, R, ?_⟩
      refine ⟨_, rfl, L .obj, dx, _, rfl, hO, rfl, _, rfl, N, B, H0, L, g, E, a, rfl, R, ?_⟩
      refine ⟨_, _, rfl, rfl, ?_⟩
      rw [Bool.true_and] at k
      exact k
    · rw [decide_eq_false c] at k ⊢
      exact iteF k
end
end K60

set_option Elab.async false
set_option linter.all false
set_option maxRecDepth 100000
set_option maxHeartbeats 8000000
/-! K60X: what bars: writings and ends. -/
namespace K60
open PySem L2 PySem.Spec
section
variable {P : Program} {w : World} {K : PySem.W.Frag} {mg : Str → Option Value} {base : Heap} {cC cE cR : Addr}
def spBarW (K : PySem.W.Frag) (cE : Addr) : Sp := fun vs H Q _ => ∃ (N B : Nat) (H0 : Hp) (L : Slot → Addr) (g : Slot → HO) (E : Eng) (n b : Int), vs = [.ref (L .obj), .int n, .int b] ∧ Rep K cE N B H0 H L g E ∧ 0 ≤ n ∧ n < N ∧
  StepOk N E n (some (true, b)) ∧ ∀ H', Same H H' → Q .non H'
theorem ok_bar_of_write {f : Addr} {fd : FuncData} (F : Fun K "bar_of_write" "Engine.bar_of_write" sEngine_bar_of_write f fd) (T : Facts K mg cC cE cR) (m1 : C8.Met P w K mg base 1 cE "start_of" (spStartOf K cE) []) :
    FnOk P w K mg base CX0 2 f fd ["self", "number", "box"] (spBarW K cE) := by
  refine F.ok sc_Engine_bar_of_write (fun vs H Q E h => ?_) (fun cdv A outer s H vs Q E hr h => ?_)
  · obtain ⟨N, B, H0, L, g, E, n, b, rfl, _⟩ := h; rfl
  · obtain ⟨N, B, H0, L, g, E, n, b, rfl, R, h0, h1, ⟨s1, s2, s3⟩, k⟩ := h
    have nd := sc_Engine_bar_of_write.nd
    have hu1 := u1_of hr
    refine ⟨_, pss_cons (ps_set (i := 3) nd rfl (Or.inl rfl) (pe_dget2 hu1 (pe_fld (pv 0) rfl) (pv 2) (pv 1) ⟨rfl, rfl, rfl, rfl⟩))
      (pss_cons (ps_if (pt_cmpR op_ne (pv 3) (pv 1) (nomark _)) (pss_one ps_never) pss_nil)
      (pss_cons (ps_set (i := 4) nd rfl (Or.inl rfl) (pe_dget2 hu1 (pe_fld (pv 0) rfl) (pv 2) (pe_lst pa_nil) ⟨rfl, rfl, rfl, rfl⟩))
      (pss_cons (ps_if (PW.pt (pw_or (pt_cmpR op_eq (pe_dget hu1 (pe_fld (pv 0) rfl) (pv 1) (fun _ _ => rfl)) pe_str (nomark _))
          (pw_or (pt_cmpR (op_eqD hr.units) (pv 4) (pe_lst pa_nil) (nomark _))
          (pw_or1 (pt_cmpR op_lt (pe_dget hu1 (pe_fld (pv 0) rfl) (pe_ix ix_list (pv 4) (pe_un un_neg pe_int) (fun _ _ => rfl)) (fun _ _ => rfl)) (C8.pe_mt m1 hr (by decide) (pv 0) (pa_cons (pv 1) pa_nil)) (nomark _))))))
        (pss_one (ps_ret pe_non)) pss_nil)
      (pss_one ps_never)))), ?_⟩
    obtain ⟨dx, hO⟩ := R.objF
    obtain ⟨d1, d2⟩ := R.holdD b
    refine ⟨_, rfl, _, _, _, _, _, rfl, hO, T.clEngine, T.nEngine_holders, rfl, L .holders, rfl, d1, _, rfl, _, rfl, _, d2, ?_⟩
    have eh : ((E.hold b).map V.int).getD (V.int n) = V.int n := by rcases s1 with z | z <;> rw [z] <;> rfl
    rw [eh]
    refine ⟨_, rfl, _, rfl, rfl, false, congrArg V.bl (by simp), iteF ?_⟩
    obtain ⟨d3, d4⟩ := R.chainD b
    refine ⟨_, rfl, _, _, _, _, _, rfl, hO, T.clEngine, T.nEngine_chains, rfl, L .chains, rfl, d3, _, rfl, Nat.zero_le _, fun p hp => ?_⟩
    have Sp := same_new (o := .lst []) hp
    have R1 := R.mono Sp
    obtain ⟨dx1, hO1⟩ := R1.objF
    obtain ⟨r, er, hr'⟩ := R.rowsAt hp b
    refine ⟨_, (R1.chainD b).2, ?_⟩
    rw [er]
    refine ⟨_, rfl, _, _, _, _, _, rfl, hO1, T.clEngine, T.nEngine_grades, rfl, _, rfl, L .grades, _, rfl, R1.gradeD h0 h1, rfl, ?_⟩
    by_cases hl : E.grade n = .lax
    · refine ⟨true, congrArg V.bl (by rw [lv_lax, hl]; rfl), iteT (iteT ?_)⟩
      exact k _ Sp
    refine ⟨false, congrArg V.bl (by rw [lv_lax]; simp [hl]), iteF ?_⟩
    refine ⟨_, rfl, Nat.zero_le _, fun q hq => ⟨_, _, .lst ((same_new hq).seq (SqL.of hr')) (ints_dp _), .lst (SqL.of upd_same) .nil, ints_shaped _, nil_shaped, ?_⟩⟩
    have Sq := same_new (o := .lst []) hq
    rcases s3 with z | z | ⟨x, t, z1, z2, z3⟩
    · exact absurd z hl
    · rw [z]
      refine ⟨true, congrArg V.bl eqv_nil0, iteT (iteT ?_)⟩
      exact k _ (Sp.trans Sq)
    · have hne : E.rows b ≠ [] := by intro e; rw [e] at z1; cases z1
      refine ⟨false, congrArg V.bl (eqv_nil hne), iteF ?_⟩
      have R2 := R1.mono Sq
      obtain ⟨dx2, hO2⟩ := R2.objF
      have hd := R2.stopD x
      rw [z2] at hd
      have hlast : atI ((E.rows b).map V.int) (-1) = some (.int x) := atI_neg1 (by rw [List.getLast?_map, z1]; rfl)
      refine ⟨_, rfl, _, _, _, _, _, rfl, hO2, T.clEngine, T.nEngine_stops, rfl, _, rfl, _, rfl, r, _, _, _, rfl, rfl, Sq.seq (SqL.of hr'), hlast, L .stops, _, rfl, hd, ?_⟩
      refine ⟨_, rfl, L .obj, dx2, _, rfl, hO2, rfl, _, rfl, N, B, H0, L, g, E, n, rfl, R2, _, _, rfl, rfl, ?_⟩
      refine ⟨true, congrArg V.bl (decide_eq_true z3), iteT ?_⟩
      exact k _ (Sp.trans Sq)
/-! ### comprehensions over lists of ints that keep some -/
theorem lc_keep {a : Addr} {ns : List Int} {p : Int → Bool} {j : Nat} {tt : TT} {te : TE} {vs : List Nat} {σ : L2.St} {H1 : Hp} {D : Addr} {Qd : Hp → Prop} (hs : SqL K H1 a (ns.map V.int)) (hD : H1 D = none) (hlen : ns.length ≤ 1000)
    (hw : ∀ x, wipe ((wipe σ vs).set j (some (V.int x))) vs = wipe σ vs)
    (ht : ∀ x ∈ ns, ∀ H Qb, Same H1 H → (∀ H3, Same H H3 → Qb (p x) H3) → tt ((wipe σ vs).set j (some (V.int x))) H Qb) (he : ∀ x H Qe, Qe (.int x) H → te ((wipe σ vs).set j (some (V.int x))) H Qe)
    (hd : ∀ H, Same H1 H → H D = some (.lst ((ns.filter p).map V.int)) → Qd H) :
    ∃ W : Nat → Nat → Hp → Prop, (∃ m, W 0 m (upd H1 D (.lst []))) ∧ ∀ i m H, W i m H →
      ((Itl K a).stop i H ∧ Qd H) ∨ ((Itl K a).go i H ∧ ∃ Nx : Hp → Prop, (∀ H', Nx H' → ∃ m', m' < m ∧ W (i + 1) m' H') ∧ ∀ x H', (Itl K a).yld i H x H' → gName j x (wipe σ vs) H' fun σ2 H2 => wipe σ2 vs = wipe σ vs ∧ tt σ2 H2 fun b H3 =>
        if b = true then te σ2 H3 fun y H4 => ∃ acc, H4 D = some (.lst acc) ∧ acc.length < sizeLine ∧ Nx (upd H4 D (.lst (acc ++ [y]))) else Nx H3) := by
  refine lc_list (K := K) (a := a) (xs := ns.map V.int) (fun i H' => Same H1 H' ∧ H' D = some (.lst (((ns.take i).filter p).map V.int))) ⟨same_new hD, by rw [upd_same]; rfl⟩ (fun i H' _ ⟨S, _⟩ => S.seq hs) ?_ ?_
  · rintro i y H2 hy ⟨S, h2⟩
    obtain ⟨x, hx, rfl⟩ := ints_get hy
    have hi := (List.getElem?_eq_some_iff.mp hx).1
    have e1 : ns.take (i + 1) = ns.take i ++ [x] := by rw [List.take_add_one, hx]; rfl
    refine ⟨hw x, ht x (List.mem_of_getElem? hx) H2 _ S fun H3 S3 => ?_⟩
    have h3 := S3 _ _ h2
    by_cases c : p x = true
    · rw [c]
      refine iteT (he x H3 _ ⟨_, h3, ?_, same_upd (S.trans S3) hD, ?_⟩)
      · rw [List.length_map]
        have : ((ns.take i).filter p).length ≤ (ns.take i).length := List.length_filter_le _ _
        rw [List.length_take] at this
        exact Nat.lt_of_le_of_lt (show _ ≤ 1000 by omega) (show 1000 < sizeLine by decide)
      · rw [upd_same, e1, List.filter_append, List.filter_cons_of_pos c, List.map_append]; rfl
    · have c' : p x = false := by simpa using c
      rw [c']
      refine iteF ⟨S.trans S3, ?_⟩
      rw [e1, List.filter_append, List.filter_cons_of_neg (by simp [c'])]
      simpa using h3
  · rintro H2 ⟨S, h2⟩
    rw [List.length_map, List.take_length] at h2
    exact hd H2 S h2
def PairAt (K : PySem.W.Frag) (H : Hp) (v : V) (t : Int × Int) : Prop := ∃ p, v = .ref p ∧ SqT K H p [.int t.1, .int t.2]
theorem PairAt.tmono {H H' : Hp} (e : TupS H H') {v : V} {t : Int × Int} : PairAt K H v t → PairAt K H' v t := fun ⟨p, a, b⟩ => ⟨p, a, e.tup b⟩
def pairsF (p : Int → Int → Bool) (xs ys : List Int) : List (Int × Int) := xs.flatMap fun x => (ys.filter (p x)).map fun y => (x, y)
theorem pairsF_len (p : Int → Int → Bool) (ys : List Int) : ∀ xs : List Int, (pairsF p xs ys).length ≤ xs.length * ys.length
  | [] => by simp [pairsF]
  | x :: xs => by
    have ih := pairsF_len p ys xs
    unfold pairsF at ih ⊢
    rw [List.flatMap_cons, List.length_append, List.length_map, List.length_cons, Nat.add_mul]
    have := List.length_filter_le (p x) ys
    omega
theorem lc_pairs {a b : Addr} {xs ys : List Int} {p : Int → Int → Bool} {j0 j1 kb : Nat} {tt1 : TT} {vs vs1 : List Nat} {σ : L2.St} {H1 : Hp} {D : Addr} {Qd : Hp → Prop} (hs : SqL K H1 a (xs.map V.int)) (hb : SqL K H1 b (ys.map V.int)) (hD : H1 D = none)
    (hx : xs.length ≤ 100) (hy : ys.length ≤ 100) (hkb : ∀ x, ((wipe σ vs).set j0 (some (V.int x)))[kb]? = some (some (.ref b)))
    (hw : ∀ x, wipe ((wipe σ vs).set j0 (some (V.int x))) vs = wipe σ vs) (hw1 : ∀ x y, wipe ((wipe ((wipe σ vs).set j0 (some (V.int x))) vs1).set j1 (some (V.int y))) vs1 = wipe ((wipe σ vs).set j0 (some (V.int x))) vs1)
    (hv0 : ∀ x y, ((wipe ((wipe σ vs).set j0 (some (V.int x))) vs1).set j1 (some (V.int y)))[j0]? = some (some (.int x))) (hv1 : ∀ x y, ((wipe ((wipe σ vs).set j0 (some (V.int x))) vs1).set j1 (some (V.int y)))[j1]? = some (some (.int y)))
    (ht : ∀ x ∈ xs, ∀ y ∈ ys, ∀ H Qb, Same H1 H → (∀ H3, Same H H3 → Qb (p x y) H3) → tt1 ((wipe ((wipe σ vs).set j0 (some (V.int x))) vs1).set j1 (some (V.int y))) H Qb)
    (hd : ∀ H acc, Same H1 H → H D = some (.lst acc) → Paired (PairAt K H) acc (pairsF p xs ys) → Qd H) :
    ∃ W : Nat → Nat → Hp → Prop, (∃ m, W 0 m (upd H1 D (.lst []))) ∧ ∀ i m H, W i m H →
      ((Itl K a).stop i H ∧ Qd H) ∨ ((Itl K a).go i H ∧ ∃ Nx : Hp → Prop, (∀ H', Nx H' → ∃ m', m' < m ∧ W (i + 1) m' H') ∧ ∀ x H', (Itl K a).yld i H x H' → gName j0 x (wipe σ vs) H' fun σ2 H2 => wipe σ2 vs = wipe σ vs ∧ tYes σ2 H2 fun b H3 =>
        if b = true then iList K (tVar kb) σ2 H3 fun J1 H4 => ∃ W1 : Nat → Nat → Hp → Prop, (∃ m, W1 0 m H4) ∧ ∀ j k H, W1 j k H →
          (J1.stop j H ∧ Nx H) ∨ (J1.go j H ∧ ∃ Nx1 : Hp → Prop, (∀ H', Nx1 H' → ∃ k', k' < k ∧ W1 (j + 1) k' H') ∧ ∀ x H', J1.yld j H x H' → gName j1 x (wipe σ2 vs1) H' fun σ3 H5 => wipe σ3 vs1 = wipe σ2 vs1 ∧ tt1 σ3 H5 fun b H6 =>
            if b = true then tTup (tCons (tVar j0) (tCons (tVar j1) tNil)) σ3 H6 fun y H7 => ∃ acc, H7 D = some (.lst acc) ∧ acc.length < sizeLine ∧ Nx1 (upd H7 D (.lst (acc ++ [y]))) else Nx1 H6)
        else Nx H3) := by
  refine ⟨fun i m H => m = xs.length - i ∧ i ≤ xs.length ∧ Same H1 H ∧ ∃ acc, H D = some (.lst acc) ∧ Paired (PairAt K H) acc (pairsF p (xs.take i) ys), ⟨_, rfl, Nat.zero_le _, same_new hD, [], upd_same, .nil⟩, ?_⟩
  rintro i m H ⟨rfl, hi, S, acc, h1, h2⟩
  have hsl := S.seq hs
  by_cases hlt : i < xs.length
  · refine .inr ⟨⟨_, _, hsl, List.getElem?_eq_getElem (by rw [List.length_map]; exact hlt)⟩, fun H' => Same H1 H' ∧ ∃ acc, H' D = some (.lst acc) ∧ Paired (PairAt K H') acc (pairsF p (xs.take (i + 1)) ys), fun H' q => ⟨_, (by omega : xs.length - (i + 1) < xs.length - i), rfl, hlt, q⟩, fun v H' yv => ?_⟩
    obtain ⟨rfl, yv⟩ := yv
    have hv := yv _ hsl
    obtain ⟨x, hxi, rfl⟩ := ints_get hv
    have e1 : xs.take (i + 1) = xs.take i ++ [x] := by rw [List.take_add_one, hxi]; rfl
    have hxm := List.mem_of_getElem? hxi
    have fin : pairsF p (xs.take (i + 1)) ys = pairsF p (xs.take i) ys ++ ((ys.filter (p x)).map fun y => (x, y)) := by
      rw [e1]; unfold pairsF; rw [List.flatMap_append]; simp
    refine ⟨hw x, yesT ?_⟩
    refine ⟨_, hkb x, b, rfl, ⟨_, S.seq hb⟩, fun j m H => m = ys.length - j ∧ j ≤ ys.length ∧ Same H1 H ∧ ∃ acc, H D = some (.lst acc) ∧ Paired (PairAt K H) acc (pairsF p (xs.take i) ys ++ (((ys.take j).filter (p x)).map fun y => (x, y))), ⟨_, rfl, Nat.zero_le _, S, acc, h1, by simpa using h2⟩, ?_⟩
    rintro j k H2 ⟨rfl, hj, S2, acc2, h3, h4⟩
    have hsb := S2.seq hb
    by_cases hlt2 : j < ys.length
    · refine .inr ⟨⟨_, _, hsb, List.getElem?_eq_getElem (by rw [List.length_map]; exact hlt2)⟩, fun H' => Same H1 H' ∧ ∃ acc, H' D = some (.lst acc) ∧ Paired (PairAt K H') acc (pairsF p (xs.take i) ys ++ (((ys.take (j + 1)).filter (p x)).map fun y => (x, y))), fun H' q => ⟨_, (by omega : ys.length - (j + 1) < ys.length - j), rfl, hlt2, q⟩, fun v2 H' yv2 => ?_⟩
      obtain ⟨rfl, yv2⟩ := yv2
      have hv2 := yv2 _ hsb
      obtain ⟨y, hyj, rfl⟩ := ints_get hv2
      have e2 : ys.take (j + 1) = ys.take j ++ [y] := by rw [List.take_add_one, hyj]; rfl
      refine ⟨hw1 x y, ht x hxm y (List.mem_of_getElem? hyj) _ _ S2 fun H3 S3 => ?_⟩
      have h3' := S3 _ _ h3
      by_cases c : p x y = true
      · rw [c]
        refine iteT ⟨_, hv0 x y, _, hv1 x y, Nat.le_of_ble_eq_true rfl, fun t htn => ?_⟩
        have St := same_new (o := .tup [.int x, .int y]) htn
        refine ⟨acc2, St _ _ h3', ?_, same_upd (S2.trans (S3.trans St)) hD, _, upd_same, ?_⟩
        · have hl := paired_len h4
          rw [List.length_append, List.length_map] at hl
          have b1 := pairsF_len p ys (xs.take i)
          have b2 := List.length_filter_le (p x) (ys.take j)
          rw [List.length_take] at b1 b2
          have b3 : min i xs.length * ys.length ≤ 100 * 100 := Nat.mul_le_mul (by omega) hy
          exact Nat.lt_of_le_of_lt (show _ ≤ 20000 by omega) (show 20000 < sizeLine by decide)
        · have w := TupS.lst (u := .lst (acc2 ++ [.ref t])) (St _ _ h3')
          rw [e2, List.filter_append, List.filter_cons_of_pos c, List.map_append, ← List.append_assoc]
          exact paired_snoc (Paired.mapP h4 fun _ _ => PairAt.tmono (((TupS.of S3).trans (TupS.of St)).trans w)) ⟨t, rfl, w.tup (SqT.of upd_same)⟩
      · have c' : p x y = false := by simpa using c
        rw [c']
        refine iteF ⟨S2.trans S3, acc2, h3', ?_⟩
        rw [e2, List.filter_append, List.filter_cons_of_neg (by simp [c'])]
        simpa using Paired.mapP h4 fun _ _ => PairAt.tmono (TupS.of S3)
    · have e : j = ys.length := by omega
      subst e
      rw [List.take_length] at h4
      exact .inl ⟨⟨_, hsb, by rw [List.length_map]; omega⟩, S2, acc2, h3, by rw [fin]; exact h4⟩
  · have e : i = xs.length := by omega
    subst e
    rw [List.take_length] at h2
    exact .inl ⟨⟨_, hsl, by rw [List.length_map]; omega⟩, hd H acc S h1 h2⟩
def midB (E : Eng) (wh : List Int) (y n : Int) : Bool :=
  (pairsF (fun x z => decide (x = z) || decide (E.stopOf z < E.stopOf x)) ((wh.filter fun o => !decide (o = y) && E.overlap o y).filter fun x => E.goesPast x y)
    ((wh.filter fun o => !decide (o = y) && E.overlap o y).filter fun z => E.goesPast y z && decide (E.stopOf z < E.stopOf y))).any fun t => decide (n = t.1) || decide (n = y)
def spMiddle (K : PySem.W.Frag) (cE : Addr) : Sp := fun vs H Q _ => ∃ (N B : Nat) (H0 : Hp) (L : Slot → Addr) (g : Slot → HO) (E : Eng) (y n : Int) (q : Addr) (wh : List Int), vs = [.ref (L .obj), .int y, .ref q, .int n] ∧ Rep K cE N B H0 H L g E ∧
  SqL K H q (wh.map V.int) ∧ wh.length ≤ 100 ∧ (∀ x ∈ wh, 0 ≤ x ∧ x < N) ∧ 0 ≤ y ∧ y < N ∧ ∀ H', Same H H' → Q (.bl (midB E wh y n)) H'
abbrev mNames : List Str := ["self", "y", "wholes", "last", "others", "ahead", "behind", "pairs", "one", "x", "z"]
abbrev tOv (cE : Addr) (K : PySem.W.Frag) (i j : Nat) : TE := tMeth cE "overlap" (spOverlap K cE) [] C8.E0 (tVar 0) (tCons (tVar i) (tCons (tVar j) tNil))
abbrev tGp (cE : Addr) (K : PySem.W.Frag) (i j : Nat) : TE := tMeth cE "goes_past" (spPast K cE) [] C8.E0 (tVar 0) (tCons (tVar i) (tCons (tVar j) tNil))
abbrev tSt (cE : Addr) (K : PySem.W.Frag) (i : Nat) : TE := tMeth cE "stop_of" (spStopOf K cE) [] C8.E0 (tVar 0) (tCons (tVar i) tNil)
abbrev tLt (a b : TE) : TT := tTest (tOp (rI0 fun i j => .bl (decide (i < j))) a b)
theorem ok_is_middle {f : Addr} {fd : FuncData} (F : Fun K "is_middle" "Engine.is_middle" sEngine_is_middle f fd) (T : Facts K mg cC cE cR) (m1 : C8.Met P w K mg base 1 cE "stop_of" (spStopOf K cE) []) (m2 : C8.Met P w K mg base 2 cE "overlap" (spOverlap K cE) []) (m3 : C8.Met P w K mg base 2 cE "goes_past" (spPast K cE) []) :
    FnOk P w K mg base CX0 3 f fd ["self", "y", "wholes", "last"] (spMiddle K cE) := by
  refine F.ok sc_Engine_is_middle (fun vs H Q E h => ?_) (fun cdv A outer s H vs Q E hr h => ?_)
  · obtain ⟨N, B, H0, L, g, E, y, n, q, wh, rfl, _⟩ := h; rfl
  · obtain ⟨N, B, H0, L, g, E, y, n, q, wh, rfl, R, hq, hlen, hrng, y0, y1, k⟩ := h
    have nd := sc_Engine_is_middle.nd
    refine ⟨_, pss_cons (ps_setLc (i := 4) (own := [("one", 8)]) (g := gName 8) (tt := tAnd (tTest (tOp rNe (tVar 8) (tVar 1))) (tB (tOv cE K 8 1))) (te := tVar 8) rfl nd rfl rfl (sw_true rfl rfl rfl (by decide +kernel)) (pi_list (pv 2)) (blkOk_by (own := [("one", 8)]) (N := mNames) (sc := defScope sEngine_is_middle) (by decide +kernel))
          (fun _ _ _ _ _ => pg_name (i := 8) nd rfl (Or.inl rfl)) (fun _ _ _ _ _ => pts_one (PW.pt (pw_and (pt_cmpR op_ne (pv 8) (pv 1) (nomark _)) (pw_and1 (pt_val (C8.pe_mt m2 hr (by decide) (pv 0) (pa_cons (pv 8) (pa_cons (pv 1) pa_nil)))))))) (fun _ _ _ _ _ => pv 8))
      (pss_cons (ps_setLc (i := 5) (own := [("x", 9)]) (g := gName 9) (tt := tB (tGp cE K 9 1)) (te := tVar 9) rfl nd rfl rfl (sw_true rfl rfl rfl (by decide +kernel)) (pi_list (pv 4)) (blkOk_by (own := [("x", 9)]) (N := mNames) (sc := defScope sEngine_is_middle) (by decide +kernel))
          (fun _ _ _ _ _ => pg_name (i := 9) nd rfl (Or.inl rfl)) (fun _ _ _ _ _ => pts_one (pt_val (C8.pe_mt m3 hr (by decide) (pv 0) (pa_cons (pv 9) (pa_cons (pv 1) pa_nil))))) (fun _ _ _ _ _ => pv 9))
      (pss_cons (ps_set (i := 6) nd rfl (Or.inr rfl) (pe_lc (own := [("z", 10)]) (g := gName 10) (tt := tAnd (tB (tGp cE K 1 10)) (tLt (tSt cE K 10) (tSt cE K 1))) (te := tVar 10) rfl nd (pi_list (pv 4)) (blkOk_by (own := [("z", 10)]) (N := mNames) (sc := defScope sEngine_is_middle) (by decide +kernel))
          (fun _ _ _ _ _ => pg_name (i := 10) nd rfl (Or.inl rfl)) (fun _ _ _ _ _ => pts_one (PW.pt (pw_and (pt_val (C8.pe_mt m3 hr (by decide) (pv 0) (pa_cons (pv 1) (pa_cons (pv 10) pa_nil))))
            (pw_and1 (pt_cmpR op_lt (C8.pe_mt m1 hr (by decide) (pv 0) (pa_cons (pv 10) pa_nil)) (C8.pe_mt m1 hr (by decide) (pv 0) (pa_cons (pv 1) pa_nil)) (nomark _)))))) (fun _ _ _ _ _ => pv 10)))
      (pss_cons (ps_setLc2 (i := 7) (own := [("x", 9), ("z", 10)]) (vs1 := [10]) (g := gName 9) (tt := tYes) (wi1 := iList K (tVar 6)) (g1 := gName 10) (tt1 := tOr (tTest (tOp rEq (tVar 9) (tVar 10))) (tLt (tSt cE K 10) (tSt cE K 9))) (te := tTup (tCons (tVar 9) (tCons (tVar 10) tNil))) rfl nd rfl rfl (sw_true rfl rfl rfl (by decide +kernel)) (pi_list (pv 5)) (blkOk_by (own := [("x", 9), ("z", 10)]) (N := mNames) (sc := defScope sEngine_is_middle) (by decide +kernel)) (by decide)
          (fun _ _ _ _ _ => pg_name (i := 9) nd rfl (Or.inl rfl)) (fun _ _ _ _ _ => pts_nil) (fun _ _ _ _ _ => pi_list (pv 6)) (fun _ _ _ _ _ => pg_name (i := 10) nd rfl (Or.inl rfl))
          (fun _ _ _ _ _ => pts_one (PW.pt (pw_or (pt_cmpR op_eq (pv 9) (pv 10) (nomark _)) (pw_or1 (pt_cmpR op_lt (C8.pe_mt m1 hr (by decide) (pv 0) (pa_cons (pv 10) pa_nil)) (C8.pe_mt m1 hr (by decide) (pv 0) (pa_cons (pv 9) pa_nil)) (nomark _))))))
          (fun _ _ _ _ _ => pe_tup (pa_cons (pv 9) (pa_cons (pv 10) pa_nil))))
      (pss_one (ps_ret (pe_callB (cr_any rfl) (by rfl) T.z_any (by decide +kernel) (pa_cons
          (pe_lc (own := [("x", 9), ("z", 10)]) (g := gTup K 2 (gCons (gName 9) (gCons (gName 10) gNil))) (tt := tYes) (te := tOp (rIn K false) (tVar 3) (tTup (tCons (tVar 9) (tCons (tVar 1) tNil)))) rfl nd (pi_list (pv 7)) (blkOk_by (own := [("x", 9), ("z", 10)]) (N := mNames) (sc := defScope sEngine_is_middle) (by decide +kernel))
            (fun _ _ _ _ _ => pg_tup (by rfl) (pgs_cons (pg_name (i := 9) nd rfl (Or.inl rfl)) (pgs_cons (pg_name (i := 10) nd rfl (Or.inl rfl)) pgs_nil))) (fun _ _ _ _ _ => pts_nil) (fun _ _ _ _ _ => pe_cmpR op_in_seq (pv 3) (pe_tup (pa_cons (pv 9) (pa_cons (pv 1) pa_nil))) (by rfl))) pa_nil))))))), ?_⟩
    have fl : ∀ p : Int → Bool, ∀ l : List Int, (l.filter p).length ≤ l.length := fun p l => List.length_filter_le _ _
    -- others
    refine ⟨_, rfl, q, rfl, ⟨_, hq⟩, fun D hD => lc_keep (p := fun o => !decide (o = y) && E.overlap o y) hq hD (by omega) (fun _ => rfl) ?_ (fun _ _ _ q => ⟨_, rfl, q⟩) fun H1 S1 h1 => ?_⟩
    · intro x hx H' Qb S kk
      have R' := R.mono S
      obtain ⟨dx, hO⟩ := R'.objF
      refine ⟨_, rfl, _, rfl, rfl, _, rfl, ?_⟩
      have kk := kk H' (Same.refl _)
      by_cases e : x = y
      · subst e
        have : (!decide (V.int x = V.int x)) = false := by simp
        rw [this]
        refine iteF ?_
        have : (!decide (x = x) && E.overlap x x) = false := by simp
        rw [this] at kk; exact kk
      · have : (!decide (V.int x = V.int y)) = true := by simp [e]
        rw [this]
        refine iteT ⟨_, rfl, L .obj, dx, _, rfl, hO, rfl, _, rfl, _, rfl, N, B, H0, L, g, E, x, y, rfl, R', _, rfl, ?_⟩
        have : (!decide (x = y) && E.overlap x y) = E.overlap x y := by simp [e]
        rw [this] at kk; exact kk
    generalize ho : (wh.filter fun o => !decide (o = y) && E.overlap o y) = others at h1
    have hol : others.length ≤ 100 := by rw [← ho]; exact Nat.le_trans (fl _ _) hlen
    have hor : ∀ x ∈ others, 0 ≤ x ∧ x < N := fun x hx => by rw [← ho] at hx; exact hrng x (List.mem_filter.mp hx).1
    have R1 := R.mono S1
    -- ahead
    refine ⟨_, rfl, D, rfl, ⟨_, SqL.of h1⟩, fun D2 hD2 => lc_keep (p := fun x => E.goesPast x y) (SqL.of h1) hD2 (by omega) (fun _ => rfl) ?_ (fun _ _ _ q => ⟨_, rfl, q⟩) fun H2 S2 h2 => ?_⟩
    · intro x hx H' Qb S kk
      have R' := R1.mono S
      obtain ⟨dx, hO⟩ := R'.objF
      exact ⟨_, rfl, L .obj, dx, _, rfl, hO, rfl, _, rfl, _, rfl, N, B, H0, L, g, E, x, y, rfl, R', y0, y1, fun H3 S3 => ⟨_, rfl, kk H3 S3⟩⟩
    have R2 := R1.mono S2
    -- behind
    refine ⟨_, rfl, D, rfl, ⟨_, S2.seq (SqL.of h1)⟩, fun D3 hD3 => lc_keep (p := fun z => E.goesPast y z && decide (E.stopOf z < E.stopOf y)) (S2.seq (SqL.of h1)) hD3 (by omega) (fun _ => rfl) ?_ (fun _ _ _ q => ⟨_, rfl, q⟩) fun H3 S3 h3 => ?_⟩
    · intro x hx H' Qb S kk
      have R' := R2.mono S
      obtain ⟨dx, hO⟩ := R'.objF
      obtain ⟨x0, x1⟩ := hor x hx
      refine ⟨_, rfl, L .obj, dx, _, rfl, hO, rfl, _, rfl, _, rfl, N, B, H0, L, g, E, y, x, rfl, R', x0, x1, fun H3 S3 => ⟨_, rfl, ?_⟩⟩
      have kk := kk H3 S3
      have R'' := R'.mono S3
      obtain ⟨dx3, hO3⟩ := R''.objF
      by_cases c : E.goesPast y x = true
      · rw [c] at kk ⊢
        rw [Bool.true_and] at kk
        refine iteT ⟨_, rfl, L .obj, dx3, _, rfl, hO3, rfl, _, rfl, N, B, H0, L, g, E, x, rfl, R'', ?_⟩
        exact ⟨_, rfl, L .obj, dx3, _, rfl, hO3, rfl, _, rfl, N, B, H0, L, g, E, y, rfl, R'', _, _, rfl, rfl, _, rfl, kk⟩
      · have c' : E.goesPast y x = false := by simpa using c
        rw [c'] at kk ⊢
        exact iteF kk
    have R3 := R2.mono S3
    -- pairs
    refine ⟨_, rfl, D2, rfl, ⟨_, S3.seq (SqL.of h2)⟩, fun D4 hD4 => lc_pairs (p := fun x z => decide (x = z) || decide (E.stopOf z < E.stopOf x)) (S3.seq (SqL.of h2)) (SqL.of h3) hD4 (Nat.le_trans (fl _ _) hol) (Nat.le_trans (fl _ _) hol) (fun _ => rfl) (fun _ => rfl) (fun _ _ => rfl) (fun _ _ => rfl) (fun _ _ => rfl) ?_ fun H4 acc S4 h4 hp => ?_⟩
    · intro x hx z hz H' Qb S kk
      have R' := R3.mono S
      obtain ⟨dx, hO⟩ := R'.objF
      have kk := kk H' (Same.refl _)
      refine ⟨_, rfl, _, rfl, rfl, decide (x = z), congrArg V.bl (by simp), ?_⟩
      by_cases c : x = z
      · rw [decide_eq_true c] at kk ⊢
        exact iteT kk
      · rw [decide_eq_false c] at kk ⊢
        rw [Bool.false_or] at kk
        refine iteF ⟨_, rfl, L .obj, dx, _, rfl, hO, rfl, _, rfl, N, B, H0, L, g, E, z, rfl, R', ?_⟩
        exact ⟨_, rfl, L .obj, dx, _, rfl, hO, rfl, _, rfl, N, B, H0, L, g, E, x, rfl, R', _, _, rfl, rfl, _, rfl, kk⟩
    have hpl := paired_len hp
    have hpb := pairsF_len (fun x z => decide (x = z) || decide (E.stopOf z < E.stopOf x)) (others.filter fun z => E.goesPast y z && decide (E.stopOf z < E.stopOf y)) (others.filter fun x => E.goesPast x y)
    have hpb2 : (others.filter fun x => E.goesPast x y).length * (others.filter fun z => E.goesPast y z && decide (E.stopOf z < E.stopOf y)).length ≤ 100 * 100 := Nat.mul_le_mul (Nat.le_trans (fl _ _) hol) (Nat.le_trans (fl _ _) hol)
    have kf : ∀ H', Same H H' → Q (.bl ((pairsF (fun x z => decide (x = z) || decide (E.stopOf z < E.stopOf x)) (others.filter fun x => E.goesPast x y) (others.filter fun z => E.goesPast y z && decide (E.stopOf z < E.stopOf y))).any fun t => decide (n = t.1) || decide (n = y))) H' := by
      intro H' S
      have := k H' S
      unfold midB at this
      rw [ho] at this
      exact this
    generalize hps : pairsF (fun x z => decide (x = z) || decide (E.stopOf z < E.stopOf x)) (others.filter fun x => E.goesPast x y) (others.filter fun z => E.goesPast y z && decide (E.stopOf z < E.stopOf y)) = ps at hp hpl hpb kf
    refine ⟨_, rfl, D4, rfl, ⟨_, SqL.of h4⟩, fun D5 hD5 => lc_list (K := K) (a := D4) (xs := acc) (fun i H' => Same H4 H' ∧ H' D5 = some (.lst (((ps.take i).map fun t => decide (n = t.1) || decide (n = y)).map V.bl))) ⟨same_new hD5, by rw [upd_same]; rfl⟩ (fun i H' _ ⟨S, _⟩ => S.seq (SqL.of h4)) ?_ ?_⟩
    · rintro i v H5 hv ⟨S5, h5⟩
      obtain ⟨t, ht, u, rfl, hu⟩ := paired_get hp hv
      have hi := (List.getElem?_eq_some_iff.mp ht).1
      refine ⟨u, _, rfl, same_tup S5 hu, rfl, _, _, rfl, _, _, rfl, rfl, rfl, yesT ?_⟩
      refine ⟨_, rfl, _, rfl, _, rfl, Nat.le_of_ble_eq_true rfl, fun z hz => ?_⟩
      have Sz := same_new (o := .tup [.int t.1, .int y]) hz
      refine ⟨z, _, rfl, .inr (SqT.of upd_same), rfl, rfl, _, Sz _ _ h5, ?_, same_upd (S5.trans Sz) hD5, ?_⟩
      · rw [List.length_map, List.length_map, List.length_take]
        exact Nat.lt_of_le_of_lt (show _ ≤ 10000 by omega) (show 10000 < sizeLine by decide)
      · rw [upd_same, List.take_add_one, ht, Option.toList_some, List.map_append, List.map_append]
        have : inV (.int n) [.int t.1, .int y] = (decide (n = t.1) || decide (n = y)) := by
          have := inV_ints n [t.1, y]
          simp only [List.map_cons, List.map_nil] at this
          rw [this, Bool.eq_iff_iff]; simp
        show some (HO.lst (_ ++ [V.bl (inV (.int n) [.int t.1, .int y])])) = _
        rw [this]; rfl
    · rintro H5 ⟨S5, h5⟩
      rw [List.take_of_length_le (by omega)] at h5
      refine ⟨D5, _, rfl, SqL.of h5, ?_⟩
      rw [List.any_map]
      exact kf H5 ((((S1.trans S2).trans S3).trans S4).trans S5)
end
end K60

set_option Elab.async false
set_option linter.all false
set_option maxRecDepth 100000
set_option maxHeartbeats 8000000
/-! K60Y: what bars an end; the deeds. -/
namespace K60
open PySem L2 PySem.Spec
theorem nodup_room : ∀ (N : Nat) (l : List Int), l.Nodup → (∀ x ∈ l, 0 ≤ x ∧ x < N) → l.length ≤ N
  | 0, l, _, h => by
    cases l with
    | nil => exact Nat.le_refl _
    | cons x l => have := h x List.mem_cons_self; omega
  | N + 1, l, nd, h => by
    by_cases hm : (N : Int) ∈ l
    · have := nodup_room N (l.erase (N : Int)) (nd.erase _) fun x hx => by
        have hx := (nd.mem_erase_iff).mp hx
        have := h x hx.2
        have h3 := hx.1
        omega
      rw [List.length_erase_of_mem hm] at this
      omega
    · have := nodup_room N l nd fun x hx => by
        have h1 := h x hx
        have : x ≠ N := fun z => hm (z ▸ hx)
        omega
      omega
theorem same_lock {H H' : Hp} {d : Addr} {u z : HO} (hd : H d = some u) (S : Same (upd H d z) H') : Same H (upd H' d u) := fun b o hb => by
  by_cases e : b = d
  · subst e; rw [hd] at hb; rw [upd_same]; exact hb
  · rw [upd_ne e]; exact S b o (by rw [upd_ne e]; exact hb)
theorem keys_mem {kv : List (Key × V)} {ns : List Int} (e : kv.map (·.1) = ns.map Sum.inl) (x : Int) : x ∈ ns ↔ valV kv (.inl x) ≠ none := by
  rw [← Option.isSome_iff_ne_none, ← valV_any, List.any_eq_true]
  constructor
  · intro hx
    have : Sum.inl x ∈ kv.map (·.1) := by rw [e]; exact List.mem_map.mpr ⟨x, hx, rfl⟩
    obtain ⟨p, hp, hq⟩ := List.mem_map.mp this
    exact ⟨p, hp, decide_eq_true hq⟩
  · rintro ⟨p, hp, hq⟩
    have hq := of_decide_eq_true hq
    have : Sum.inl x ∈ kv.map (·.1) := List.mem_map.mpr ⟨p, hp, hq⟩
    rw [e] at this
    obtain ⟨y, hy, hz⟩ := List.mem_map.mp this
    injection hz with hz
    exact hz ▸ hy
theorem midB_iff {E : Eng} {n y : Int} {wh : List Int} (h : ∀ x, x ∈ wh ↔ E.Wh n x) : midB E wh y n = true ↔ E.Mid n y := by
  unfold midB pairsF
  simp only [List.any_eq_true, List.mem_flatMap, List.mem_map, List.mem_filter, Bool.and_eq_true, Bool.or_eq_true, decide_eq_true_eq, Bool.not_eq_true', decide_eq_false_iff_not]
  constructor
  · rintro ⟨t, ⟨x, ⟨⟨hx, hxy, ov⟩, gp⟩, z, ⟨⟨⟨hz, hzy, ovz⟩, gpz, sz⟩, c⟩, rfl⟩, hn⟩
    exact ⟨x, z, (h x).mp hx, (h z).mp hz, ⟨hxy, ov, gp⟩, ⟨hzy, ovz, gpz, sz⟩, c, hn⟩
  · rintro ⟨x, z, hx, hz, ⟨hxy, ov, gp⟩, ⟨hzy, ovz, gpz, sz⟩, c, hn⟩
    exact ⟨(x, z), ⟨x, ⟨⟨(h x).mpr hx, hxy, ov⟩, gp⟩, z, ⟨⟨⟨(h z).mpr hz, hzy, ovz⟩, gpz, sz⟩, c⟩, rfl⟩, hn⟩
section
variable {P : Program} {w : World} {K : PySem.W.Frag} {mg : Str → Option Value} {base : Heap} {cC cE cR : Addr}
def spBarE (K : PySem.W.Frag) (cE : Addr) : Sp := fun vs H Q _ => ∃ (N B : Nat) (H0 : Hp) (L : Slot → Addr) (g : Slot → HO) (E : Eng) (n : Int), vs = [.ref (L .obj), .int n] ∧ Rep K cE N B H0 H L g E ∧ 0 ≤ n ∧ n < N ∧ N ≤ 60 ∧
  StepOk N E n none ∧ (∀ H', Same H H' → ¬ E.BarEnd n → Q .non H') ∧ ∀ H' t y, Same H H' → E.BarEnd n → H' t = some (.tup [.str "chain", .int y]) → Q (.ref t) H'
theorem ok_bar_of_end {f : Addr} {fd : FuncData} (F : Fun K "bar_of_end" "Engine.bar_of_end" sEngine_bar_of_end f fd) (T : Facts K mg cC cE cR) (m1 : C8.Met P w K mg base 3 cE "is_middle" (spMiddle K cE) []) :
    FnOk P w K mg base CX0 4 f fd ["self", "number"] (spBarE K cE) := by
  refine F.ok sc_Engine_bar_of_end (fun vs H Q E h => ?_) (fun cdv A outer s H vs Q E hr h => ?_)
  · obtain ⟨N, B, H0, L, g, E, n, rfl, _⟩ := h; rfl
  · obtain ⟨N, B, H0, L, g, E, n, rfl, R, n0, n1, hN, ⟨s1, s2, s3, s4⟩, k1, k2⟩ := h
    have nd := sc_Engine_bar_of_end.nd
    have hu1 := u1_of hr
    refine ⟨_, pss_cons (ps_if (pt_cmpR op_ne (pe_dget hu1 (pe_fld (pv 0) rfl) (pv 1) (fun _ _ => rfl)) pe_str (nomark _)) (pss_one (ps_ret pe_non)) pss_nil)
      (pss_cons (ps_set (i := 2) nd rfl (Or.inl rfl) (pe_callB cr_sorted (by rfl) T.z_sorted (by decide +kernel) (pa_cons (pe_op op_cat
          (pe_lock (pe_lc (own := [("one", 4)]) (g := gName 4) (tt := tTest (tOp rEq (tDGet (tFld K (tVar 0) "grades") (tVar 4)) (tC (.str "whole")))) (te := tVar 4) rfl nd (pi_keys (pe_fld (pv 0) rfl)) (blkOk_by (own := [("one", 4)]) (N := ["self", "number", "wholes", "y", "one"]) (sc := defScope sEngine_bar_of_end) (by decide +kernel))
            (fun _ _ _ _ _ => pg_name (i := 4) nd rfl (Or.inl rfl)) (fun _ _ _ _ _ => pts_one (pt_cmpR op_eq (pe_dget hu1 (pe_fld (pv 0) rfl) (pv 4) (fun _ _ => rfl)) pe_str (nomark _))) (fun _ _ _ _ _ => pv 4)))
          (pe_lst (pa_cons (pv 1) pa_nil))) pa_nil)))
      (pss_cons (ps_for PassesOwn.never rfl (pi_list (pv 2)) (pg_name (i := 3) nd rfl (Or.inl rfl))
        (pss_one (ps_if (pt_val (C8.pe_mt m1 hr (by decide) (pv 0) (pa_cons (pv 3) (pa_cons (pv 2) (pa_cons (pv 1) pa_nil))))) (pss_one (ps_ret (pe_tup (pa_cons pe_str (pa_cons (pv 3) pa_nil))))) pss_nil)))
      (pss_one (ps_ret pe_non)))), ?_⟩
    obtain ⟨dx, hO⟩ := R.objF
    refine ⟨_, rfl, _, _, _, _, _, rfl, hO, T.clEngine, T.nEngine_grades, rfl, _, rfl, L .grades, _, rfl, R.gradeD n0 n1, rfl, ?_⟩
    refine ⟨!decide (E.grade n = .whole), congrArg V.bl (by rw [lv_whole]), ?_⟩
    by_cases hl : E.grade n = .whole
    case neg =>
      rw [decide_eq_false hl]
      exact iteT (k1 H (Same.refl H) fun b => hl b.1)
    rw [decide_eq_true hl]
    refine iteF ?_
    -- the stops, locked
    obtain ⟨kT, hkT, lT, vT, ns, ens, ndns⟩ := R.stops
    have hT := R.at_ .stops trivial
    rw [hkT] at hT
    obtain ⟨kG, hkG, lG, vG⟩ := R.grades
    have hG := R.at_ .grades trivial
    rw [hkG] at hG
    have neG : L .grades ≠ L .stops := fun z => by cases R.inj .grades .stops trivial trivial z
    have neO : L .obj ≠ L .stops := fun z => by cases R.inj .obj .stops trivial trivial z
    have hns : ∀ x, x ∈ ns ↔ E.stop x ≠ none := fun x => by
      rw [keys_mem ens, vT]
      cases E.stop x <;> simp
    have nsN : ns.length ≤ N := nodup_room N ns ndns fun x hx => s1 x ((hns x).mp hx)
    have hkl : kT.length = ns.length := by have := congrArg List.length ens; simpa using this
    refine ⟨L .stops, _, hT, trivial, fun od => ?_⟩
    have hO' : (upd H (L .stops) (.frz od (.dK kT))) (L .obj) = some (.ins cE dx (engFs L E.mom)) := by rw [upd_ne neO]; exact hO
    have hG' : (upd H (L .stops) (.frz od (.dK kT))) (L .grades) = some (.dK kG) := by rw [upd_ne neG]; exact hG
    have hT' : (upd H (L .stops) (.frz od (.dK kT))) (L .stops) = some (.frz od (.dK kT)) := upd_same
    generalize hHl : upd H (L .stops) (.frz od (.dK kT)) = Hl at hO' hG' hT'
    refine ⟨_, rfl, _, _, _, _, _, rfl, hO', T.clEngine, T.nEngine_stops, rfl, L .stops, od, rfl, .inl ⟨kT, hT', fun D hD => lc_it walk_keys (fun i H' => Same Hl H' ∧ H' D = some (.lst (((ns.take i).filter fun x => decide (E.grade x = .whole)).map V.int))) ⟨same_new hD, by rw [upd_same]; rfl⟩
      (fun i H' _ ⟨S, _⟩ => S _ _ hT') ?_ ?_⟩⟩
    · rintro i v H2 H3 hi ⟨S, h2⟩ ⟨rfl, kk, v2, hkv, rfl⟩
      have hns' : (ns.map (Sum.inl (β := Str)))[i]? = some kk := by rw [← ens, List.getElem?_map, hkv]; rfl
      rw [List.getElem?_map] at hns'
      cases hx : ns[i]? with
      | none => rw [hx] at hns'; cases hns'
      | some x =>
        rw [hx] at hns'; cases hns'
        have hxm := List.mem_of_getElem? hx
        obtain ⟨x0, x1⟩ := s1 x ((hns x).mp hxm)
        have e1 : ns.take (i + 1) = ns.take i ++ [x] := by rw [List.take_add_one, hx]; rfl
        have hd := DGet.k (k := .inl x) (S _ _ hG')
        rw [vG x x0 x1] at hd
        refine ⟨rfl, _, rfl, _, _, _, _, _, rfl, S _ _ hO', T.clEngine, T.nEngine_grades, rfl, _, rfl, L .grades, _, rfl, hd, rfl, _, congrArg V.bl (lv_whole _), ?_⟩
        by_cases c : E.grade x = .whole
        · rw [decide_eq_true c]
          refine iteT ⟨_, rfl, _, h2, ?_, same_upd S hD, ?_⟩
          · rw [List.length_map]
            have : ((ns.take i).filter fun x => decide (E.grade x = .whole)).length ≤ (ns.take i).length := List.length_filter_le _ _
            rw [List.length_take] at this
            exact small1000 (by omega)
          · rw [upd_same, e1, List.filter_append, List.filter_cons_of_pos (by simp [c]), List.map_append]; rfl
        · rw [decide_eq_false c]
          refine iteF ⟨S, ?_⟩
          rw [e1, List.filter_append, List.filter_cons_of_neg (by simp [c])]
          simpa using h2
    rintro H2 ⟨S2, h2⟩
    rw [hkl, List.take_length] at h2
    refine ⟨S2 _ _ hT', ?_⟩
    subst hHl
    have Sa : Same H (upd H2 (L .stops) (.dK kT)) := same_lock hT S2
    have neD : D ≠ L .stops := fun z => by rw [z, upd_same] at hD; cases hD
    have ha : (upd H2 (L .stops) (.dK kT)) D = some (.lst ((ns.filter fun x => decide (E.grade x = .whole)).map V.int)) := by rw [upd_ne neD]; exact h2
    generalize hHa : upd H2 (L .stops) (.dK kT) = Ha at Sa ha
    have hfl : (ns.filter fun x => decide (E.grade x = .whole)).length ≤ ns.length := List.length_filter_le _ _
    refine ⟨_, rfl, Nat.le_of_ble_eq_true rfl, fun u hu => ?_⟩
    have Su := same_new (o := .lst [.int n]) hu
    refine ⟨D, u, _, _, rfl, rfl, Su _ _ ha, upd_same, ?_, fun v hv => ?_⟩
    · rw [List.length_map]; exact Nat.le_trans (show _ ≤ 1000 by show _ + 1 ≤ 1000; omega) (show 1000 ≤ sizeLine by decide)
    have Sv := same_new (o := .lst ((ns.filter fun x => decide (E.grade x = .whole)).map V.int ++ [.int n])) hv
    refine ⟨v, (ns.filter fun x => decide (E.grade x = .whole)) ++ [n], rfl, SqL.of (by rw [upd_same, List.map_append]; rfl), by simp; omega, fun wh q hperm _ hq => ?_⟩
    have Sq := same_new (o := .lst (wh.map V.int)) hq
    have Sall := ((Sa.trans Su).trans Sv).trans Sq
    have Rq := R.mono Sall
    have whM : ∀ x, x ∈ wh ↔ E.Wh n x := fun x => by
      rw [hperm.mem_iff, List.mem_append, List.mem_filter, hns, List.mem_singleton, decide_eq_true_eq]; rfl
    have whl : wh.length ≤ 100 := by rw [hperm.length_eq, List.length_append]; simp; omega
    have whr : ∀ x ∈ wh, 0 ≤ x ∧ x < N := fun x hx => by
      rcases (whM x).mp hx with z | z
      · exact s1 x z.1
      · rw [z]; exact ⟨n0, n1⟩
    have hqL : SqL K (upd (upd (upd Ha u (.lst [.int n])) v (.lst ((ns.filter fun x => decide (E.grade x = .whole)).map V.int ++ [.int n]))) q (.lst (wh.map V.int))) q (wh.map V.int) := SqL.of upd_same
    generalize (upd (upd (upd Ha u (.lst [.int n])) v (.lst ((ns.filter fun x => decide (E.grade x = .whole)).map V.int ++ [.int n]))) q (.lst (wh.map V.int))) = Hq at Sall Rq hqL ⊢
    refine ⟨_, rfl, q, rfl, ⟨_, hqL⟩, for_list (K := K) (a := q) (xs := wh.map V.int) (fun i σ H' => ∃ o, σ = [some (.ref (L .obj)), some (.int n), some (.ref q), o, none] ∧ Same Hq H' ∧ ∀ y ∈ wh.take i, midB E wh y n = false)
      ⟨none, rfl, Same.refl _, by simp⟩ (fun i σ H' _ ⟨_, _, S, _⟩ => S.seq hqL) ?_ ?_⟩
    · rintro i v2 σ H5 hv2 ⟨o, rfl, S5, hno⟩
      obtain ⟨y, hy, rfl⟩ := ints_get hv2
      have hym := List.mem_of_getElem? hy
      have e1 : wh.take (i + 1) = wh.take i ++ [y] := by rw [List.take_add_one, hy]; rfl
      have R5 := Rq.mono S5
      obtain ⟨dx5, hO5⟩ := R5.objF
      refine ⟨_, rfl, L .obj, dx5, _, rfl, hO5, rfl, _, rfl, _, rfl, _, rfl, N, B, H0, L, g, E, y, n, q, wh, rfl, R5, S5.seq hqL, whl, whr, (whr y hym).1, (whr y hym).2, fun H6 S6 => ⟨_, rfl, ?_⟩⟩
      by_cases c : midB E wh y n = true
      · rw [c]
        refine iteT ⟨_, rfl, Nat.le_of_ble_eq_true rfl, fun t ht => ?_⟩
        exact k2 _ t y ((Sall.trans (S5.trans S6)).trans (same_new ht)) ⟨hl, y, (whM y).mp hym, (midB_iff whM).mp c⟩ upd_same
      · have c' : midB E wh y n = false := by simpa using c
        rw [c']
        refine iteF ⟨_, rfl, S5.trans S6, fun z hz => ?_⟩
        rw [e1] at hz
        rcases List.mem_append.mp hz with hz | hz
        · exact hno z hz
        · rw [List.mem_singleton] at hz; rw [hz]; exact c'
    · rintro σ H5 ⟨o, rfl, S5, hno⟩
      rw [List.length_map, List.take_length] at hno
      refine k1 _ (Sall.trans S5) fun ⟨_, y, hwy, hm⟩ => ?_
      have := (midB_iff whM).mpr hm
      rw [hno y ((whM y).mpr hwy)] at this
      cases this
end
end K60

set_option Elab.async false
set_option linter.all false
set_option maxRecDepth 100000
set_option maxHeartbeats 8000000
/-! K60Z: bar_of, do, enter, __init__ of an engine. -/
namespace K60
open PySem L2 PySem.Spec
/-- a next step: a step's tuple, or None -/
def OptAt (K : PySem.W.Frag) (H : Hp) (v : V) : Option Stp → Prop
  | none => v = .non
  | some s => StepAt K H v s
theorem OptAt.mono {K : PySem.W.Frag} {H H' : Hp} (e : TupS H H') {v : V} : ∀ {s : Option Stp}, OptAt K H v s → OptAt K H' v s
  | none, h => h
  | some _, h => StepAt.tmono e h
section
variable {P : Program} {w : World} {K : PySem.W.Frag} {mg : Str → Option Value} {base : Heap} {cC cE cR : Addr}
def spBarOf (K : PySem.W.Frag) (cE : Addr) : Sp := fun vs H Q _ => ∃ (N B : Nat) (H0 : Hp) (L : Slot → Addr) (g : Slot → HO) (E : Eng) (n : Int) (v : V) (st : Option Stp), vs = [.ref (L .obj), .int n, v] ∧ Rep K cE N B H0 H L g E ∧ 0 ≤ n ∧ n < N ∧ N ≤ 60 ∧
  OptAt K H v st ∧ StepOk N E n st ∧ (∀ H', Same H H' → (st = none → ¬ E.BarEnd n) → Q .non H') ∧ ∀ H' t y, Same H H' → st = none → E.BarEnd n → H' t = some (.tup [.str "chain", .int y]) → Q (.ref t) H'
theorem ok_bar_of {f : Addr} {fd : FuncData} (F : Fun K "bar_of" "Engine.bar_of" sEngine_bar_of f fd) (T : Facts K mg cC cE cR) (m1 : C8.Met P w K mg base 4 cE "bar_of_end" (spBarE K cE) []) (m2 : C8.Met P w K mg base 2 cE "bar_of_write" (spBarW K cE) []) :
    FnOk P w K mg base CX0 5 f fd ["self", "number", "step"] (spBarOf K cE) := by
  refine F.ok sc_Engine_bar_of (fun vs H Q E h => ?_) (fun cdv A outer s H vs Q E hr h => ?_)
  · obtain ⟨N, B, H0, L, g, E, n, v, st, rfl, _⟩ := h; rfl
  · obtain ⟨N, B, H0, L, g, E, n, v, st, rfl, R, n0, n1, hN, hv, hst, k1, k2⟩ := h
    have nd := sc_Engine_bar_of.nd
    refine ⟨_, pss_cons (ps_if (pt_cmpR op_isN (pv 2) pe_non (nomark _)) (pss_one (ps_ret (C8.pe_mt m1 hr (by decide) (pv 0) (pa_cons (pv 1) pa_nil)))) pss_nil)
      (pss_cons (ps_asg (pv 2) (pg_tup (by rfl) (pgs_cons (pg_name (i := 3) nd rfl (Or.inl rfl)) (pgs_cons (pg_name (i := 4) nd rfl (Or.inl rfl)) pgs_nil))))
      (pss_cons (ps_if (pt_cmpR op_eq (pv 3) pe_str (nomark _)) (pss_one (ps_ret (C8.pe_mt m2 hr (by decide) (pv 0) (pa_cons (pv 1) (pa_cons (pv 4) pa_nil))))) pss_nil)
      (pss_one (ps_ret pe_non)))), ?_⟩
    obtain ⟨dx, hO⟩ := R.objF
    cases st with
    | none =>
      have hv : v = .non := hv
      subst hv
      refine ⟨_, rfl, rfl, true, rfl, iteT ?_⟩
      exact ⟨_, rfl, L .obj, dx, _, rfl, hO, rfl, _, rfl, N, B, H0, L, g, E, n, rfl, R, n0, n1, hN, hst, fun H' S nb => k1 H' S fun _ => nb, fun H' t y S b ht => k2 H' t y S rfl b ht⟩
    | some s =>
      obtain ⟨t, rfl, ht⟩ := hv
      refine ⟨_, rfl, rfl, false, rfl, iteF ?_⟩
      refine ⟨_, rfl, t, _, rfl, ht, rfl, _, _, rfl, _, _, rfl, rfl, _, rfl, rfl, s.1, congrArg V.bl (wd_write _), ?_⟩
      obtain ⟨wr, b⟩ := s
      cases wr with
      | true => exact iteT ⟨_, rfl, L .obj, dx, _, rfl, hO, rfl, _, rfl, _, rfl, N, B, H0, L, g, E, n, b, rfl, R, n0, n1, hst, fun H' S => k1 H' S fun z => by cases z⟩
      | false => exact iteF (k1 H (Same.refl H) fun z => by cases z)
def spEnter (K : PySem.W.Frag) (cE : Addr) : Sp := fun vs H Q _ => ∃ (N B : Nat) (H0 : Hp) (L : Slot → Addr) (g : Slot → HO) (E : Eng), vs = [.ref (L .obj), .int (N : Nat), .str (lvS (E.grade N))] ∧ Rep K cE N B H0 H L g E ∧ E.put N = [] ∧ B ≤ 1000 ∧
  ∀ H' L' g', Rep K cE (N + 1) (B + 1) H0 H' L' g' E → L' .obj = L .obj → Q .non H'
theorem ok_enter {f : Addr} {fd : FuncData} (F : Fun K "enter" "Engine.enter" sEngine_enter f fd) (T : Facts K mg cC cE cR) : FnOk P w K mg base CX0 1 f fd ["self", "number", "level"] (spEnter K cE) := by
  refine F.ok sc_Engine_enter (fun vs H Q E h => ?_) (fun cdv A outer s H vs Q E hr h => ?_)
  · obtain ⟨N, B, H0, L, g, E, rfl, _⟩ := h; rfl
  · obtain ⟨N, B, H0, L, g, E, rfl, R, hE, hB, k⟩ := h
    have hu1 := u1_of hr
    refine ⟨_, pss_cons (ps_dput hu1 (pe_fld (pv 0) rfl) (pv 1) (pv 2) rfl) (pss_one (ps_dput hu1 (pe_fld (pv 0) rfl) (pv 1) (pe_lst pa_nil) rfl)), ?_⟩
    obtain ⟨dx, hO⟩ := R.objF
    obtain ⟨kv, hk, hl, _⟩ := R.grades
    obtain ⟨ku, hku, hlu, _⟩ := R.puts
    have hG := R.at_ .grades trivial
    rw [hk] at hG
    have hP := R.at_ .puts trivial
    rw [hku] at hP
    have neG : L .puts ≠ L .grades := fun z => by cases R.inj .puts .grades trivial trivial z
    have neO : L .obj ≠ L .grades := fun z => by cases R.inj .obj .grades trivial trivial z
    have b1 : (1000 : Nat) < sizeLine := by decide
    refine ⟨_, rfl, _, rfl, _, _, _, _, _, rfl, hO, T.clEngine, T.nEngine_grades, rfl, _, rfl, L .grades, _, rfl, DPut.k (k := .inl N) hG (by omega), ?_⟩
    refine ⟨Nat.zero_le _, fun p hp => ?_⟩
    have neP : p ≠ L .grades := fun z => by rw [z, upd_same] at hp; cases hp
    have hp0 : H p = none := by rw [upd_ne neP] at hp; exact hp
    have npo : L .obj ≠ p := fun z => by rw [z, hp0] at hO; cases hO
    have npp : L .puts ≠ p := fun z => by rw [z, hp0] at hP; cases hP
    refine ⟨_, rfl, _, _, _, _, _, rfl, (by rw [upd_ne npo, upd_ne neO]; exact hO), T.clEngine, T.nEngine_puts, rfl, _, rfl, L .puts, _, rfl, DPut.k (k := .inl N) (by rw [upd_ne npp, upd_ne neG]; exact hP) (by omega), ?_⟩
    exact k _ _ _ (R.enter hE hp0 hk hku) (setL_ne _ _ (by intro z; cases z))
theorem init_step {H : Hp} {x p : Addr} {o i i0 : HO} (hx : H x = some i0) (hp : H p = none) :
    p ≠ x ∧ (upd (upd H p o) x i) x = some i ∧ (upd (upd H p o) x i) p = some o ∧ ∀ q u, H q = some u → q ≠ x → q ≠ p ∧ (upd (upd H p o) x i) q = some u := by
  have n : p ≠ x := fun z => by rw [z, hx] at hp; cases hp
  refine ⟨n, upd_same, by rw [upd_ne n, upd_same], fun q u hq hqx => ?_⟩
  have n2 : q ≠ p := fun z => by rw [z, hp] at hq; cases hq
  exact ⟨n2, by rw [upd_ne hqx, upd_ne n2]; exact hq⟩
theorem none_of {H0 H : Hp} {p : Addr} (S : Same H0 H) (h : H p = none) : H0 p = none := by
  cases e : H0 p with
  | none => rfl
  | some o => rw [S p o e] at h; cases h
def spEInit (K : PySem.W.Frag) (cE : Addr) : Sp := fun vs H Q _ => ∃ (H0 : Hp) (x dx : Addr) (lv : Int → Lv), vs = [.ref x] ∧ H x = some (.ins cE dx []) ∧ Same H0 H ∧ H0 x = none ∧
  ∀ H' L g, Rep K cE 0 0 H0 H' L g (init lv).E → L .obj = x → Q .non H'
theorem ok_Engine_init {f : Addr} {fd : FuncData} (F : Fun K "__init__" "Engine.__init__" sEngine_init f fd) (T : Facts K mg cC cE cR) : FnOk P w K mg base CX0 1 f fd ["self"] (spEInit K cE) := by
  refine F.ok sc_Engine_init (fun vs H Q E h => ?_) (fun cdv A outer s H vs Q E hr h => ?_)
  · obtain ⟨H0, x, dx, lv, rfl, _⟩ := h; rfl
  · obtain ⟨H0, x, dx, lv, rfl, hx, S, hx0, k⟩ := h
    refine ⟨_, pss_cons (ps_fld (pv 0) pe_int rfl) (pss_cons (ps_fld (pv 0) pe_dnewK rfl) (pss_cons (ps_fld (pv 0) pe_dnewK rfl) (pss_cons (ps_fld (pv 0) pe_dnewK rfl) (pss_cons (ps_fld (pv 0) pe_dnewK rfl) (pss_cons (ps_fld (pv 0) pe_dnewK rfl) (pss_cons (ps_fld (pv 0) pe_dnewT rfl) (pss_cons (ps_fld (pv 0) pe_dnewK rfl) (pss_one (ps_fld (pv 0) (pe_lst pa_nil) rfl))))))))), ?_⟩
    refine ⟨_, rfl, x, cE, dx, _, rfl, hx, T.clEngine, T.nEngine_moment, (by decide), ?_⟩
    have X0 : (upd H x (.ins cE dx (putF "moment" (.int 0) []))) x = some (.ins cE dx [("moment", .int 0)]) := upd_same
    have S0 : Same H0 (upd H x (.ins cE dx (putF "moment" (.int 0) []))) := same_upd S hx0
    generalize (upd H x (.ins cE dx (putF "moment" (.int 0) []))) = G0 at X0 S0 ⊢
    refine fun p1 h1 => ?_
    obtain ⟨n1, X1, Y1_1, st1⟩ := init_step (o := .dK []) (i := .ins cE dx [("moment", .int 0), ("grades", .ref p1)]) X0 h1
    have S1 : Same H0 (upd (upd G0 p1 (.dK [])) x (.ins cE dx [("moment", .int 0), ("grades", .ref p1)])) := same_upd (S0.trans (same_new h1)) hx0
    have z1 := none_of S0 h1
    refine ⟨_, rfl, x, cE, dx, _, rfl, (by rw [upd_ne n1.symm]; exact X0), T.clEngine, T.nEngine_grades, (by show 1 < 1000; decide), ?_⟩
    have E1 : (upd (upd G0 p1 (.dK [])) x (.ins cE dx (putF "grades" (.ref p1) [("moment", .int 0)]))) = upd (upd G0 p1 (.dK [])) x (.ins cE dx [("moment", .int 0), ("grades", .ref p1)]) := rfl
    rw [E1]
    clear E1
    generalize upd (upd G0 p1 (.dK [])) x (.ins cE dx [("moment", .int 0), ("grades", .ref p1)]) = G1 at X1 Y1_1 S1 ⊢
    clear st1
    refine fun p2 h2 => ?_
    obtain ⟨n2, X2, Y2_2, st2⟩ := init_step (o := .dK []) (i := .ins cE dx [("moment", .int 0), ("grades", .ref p1), ("starts", .ref p2)]) X1 h2
    have S2 : Same H0 (upd (upd G1 p2 (.dK [])) x (.ins cE dx [("moment", .int 0), ("grades", .ref p1), ("starts", .ref p2)])) := same_upd (S1.trans (same_new h2)) hx0
    have z2 := none_of S1 h2
    obtain ⟨d1_2, Y1_2⟩ := st2 _ _ Y1_1 n1
    refine ⟨_, rfl, x, cE, dx, _, rfl, (by rw [upd_ne n2.symm]; exact X1), T.clEngine, T.nEngine_starts, (by show 2 < 1000; decide), ?_⟩
    have E2 : (upd (upd G1 p2 (.dK [])) x (.ins cE dx (putF "starts" (.ref p2) [("moment", .int 0), ("grades", .ref p1)]))) = upd (upd G1 p2 (.dK [])) x (.ins cE dx [("moment", .int 0), ("grades", .ref p1), ("starts", .ref p2)]) := rfl
    rw [E2]
    clear E2
    generalize upd (upd G1 p2 (.dK [])) x (.ins cE dx [("moment", .int 0), ("grades", .ref p1), ("starts", .ref p2)]) = G2 at X2 Y1_2 Y2_2 S2 ⊢
    clear st2
    refine fun p3 h3 => ?_
    obtain ⟨n3, X3, Y3_3, st3⟩ := init_step (o := .dK []) (i := .ins cE dx [("moment", .int 0), ("grades", .ref p1), ("starts", .ref p2), ("stops", .ref p3)]) X2 h3
    have S3 : Same H0 (upd (upd G2 p3 (.dK [])) x (.ins cE dx [("moment", .int 0), ("grades", .ref p1), ("starts", .ref p2), ("stops", .ref p3)])) := same_upd (S2.trans (same_new h3)) hx0
    have z3 := none_of S2 h3
    obtain ⟨d1_3, Y1_3⟩ := st3 _ _ Y1_2 n1
    obtain ⟨d2_3, Y2_3⟩ := st3 _ _ Y2_2 n2
    refine ⟨_, rfl, x, cE, dx, _, rfl, (by rw [upd_ne n3.symm]; exact X2), T.clEngine, T.nEngine_stops, (by show 3 < 1000; decide), ?_⟩
    have E3 : (upd (upd G2 p3 (.dK [])) x (.ins cE dx (putF "stops" (.ref p3) [("moment", .int 0), ("grades", .ref p1), ("starts", .ref p2)]))) = upd (upd G2 p3 (.dK [])) x (.ins cE dx [("moment", .int 0), ("grades", .ref p1), ("starts", .ref p2), ("stops", .ref p3)]) := rfl
    rw [E3]
    clear E3
    generalize upd (upd G2 p3 (.dK [])) x (.ins cE dx [("moment", .int 0), ("grades", .ref p1), ("starts", .ref p2), ("stops", .ref p3)]) = G3 at X3 Y1_3 Y2_3 Y3_3 S3 ⊢
    clear st3
    refine fun p4 h4 => ?_
    obtain ⟨n4, X4, Y4_4, st4⟩ := init_step (o := .dK []) (i := .ins cE dx [("moment", .int 0), ("grades", .ref p1), ("starts", .ref p2), ("stops", .ref p3), ("chains", .ref p4)]) X3 h4
    have S4 : Same H0 (upd (upd G3 p4 (.dK [])) x (.ins cE dx [("moment", .int 0), ("grades", .ref p1), ("starts", .ref p2), ("stops", .ref p3), ("chains", .ref p4)])) := same_upd (S3.trans (same_new h4)) hx0
    have z4 := none_of S3 h4
    obtain ⟨d1_4, Y1_4⟩ := st4 _ _ Y1_3 n1
    obtain ⟨d2_4, Y2_4⟩ := st4 _ _ Y2_3 n2
    obtain ⟨d3_4, Y3_4⟩ := st4 _ _ Y3_3 n3
    refine ⟨_, rfl, x, cE, dx, _, rfl, (by rw [upd_ne n4.symm]; exact X3), T.clEngine, T.nEngine_chains, (by show 4 < 1000; decide), ?_⟩
    have E4 : (upd (upd G3 p4 (.dK [])) x (.ins cE dx (putF "chains" (.ref p4) [("moment", .int 0), ("grades", .ref p1), ("starts", .ref p2), ("stops", .ref p3)]))) = upd (upd G3 p4 (.dK [])) x (.ins cE dx [("moment", .int 0), ("grades", .ref p1), ("starts", .ref p2), ("stops", .ref p3), ("chains", .ref p4)]) := rfl
    rw [E4]
    clear E4
    generalize upd (upd G3 p4 (.dK [])) x (.ins cE dx [("moment", .int 0), ("grades", .ref p1), ("starts", .ref p2), ("stops", .ref p3), ("chains", .ref p4)]) = G4 at X4 Y1_4 Y2_4 Y3_4 Y4_4 S4 ⊢
    clear st4
    refine fun p5 h5 => ?_
    obtain ⟨n5, X5, Y5_5, st5⟩ := init_step (o := .dK []) (i := .ins cE dx [("moment", .int 0), ("grades", .ref p1), ("starts", .ref p2), ("stops", .ref p3), ("chains", .ref p4), ("holders", .ref p5)]) X4 h5
    have S5 : Same H0 (upd (upd G4 p5 (.dK [])) x (.ins cE dx [("moment", .int 0), ("grades", .ref p1), ("starts", .ref p2), ("stops", .ref p3), ("chains", .ref p4), ("holders", .ref p5)])) := same_upd (S4.trans (same_new h5)) hx0
    have z5 := none_of S4 h5
    obtain ⟨d1_5, Y1_5⟩ := st5 _ _ Y1_4 n1
    obtain ⟨d2_5, Y2_5⟩ := st5 _ _ Y2_4 n2
    obtain ⟨d3_5, Y3_5⟩ := st5 _ _ Y3_4 n3
    obtain ⟨d4_5, Y4_5⟩ := st5 _ _ Y4_4 n4
    refine ⟨_, rfl, x, cE, dx, _, rfl, (by rw [upd_ne n5.symm]; exact X4), T.clEngine, T.nEngine_holders, (by show 5 < 1000; decide), ?_⟩
    have E5 : (upd (upd G4 p5 (.dK [])) x (.ins cE dx (putF "holders" (.ref p5) [("moment", .int 0), ("grades", .ref p1), ("starts", .ref p2), ("stops", .ref p3), ("chains", .ref p4)]))) = upd (upd G4 p5 (.dK [])) x (.ins cE dx [("moment", .int 0), ("grades", .ref p1), ("starts", .ref p2), ("stops", .ref p3), ("chains", .ref p4), ("holders", .ref p5)]) := rfl
    rw [E5]
    clear E5
    generalize upd (upd G4 p5 (.dK [])) x (.ins cE dx [("moment", .int 0), ("grades", .ref p1), ("starts", .ref p2), ("stops", .ref p3), ("chains", .ref p4), ("holders", .ref p5)]) = G5 at X5 Y1_5 Y2_5 Y3_5 Y4_5 Y5_5 S5 ⊢
    clear st5
    refine fun p6 h6 => ?_
    obtain ⟨n6, X6, Y6_6, st6⟩ := init_step (o := .dT []) (i := .ins cE dx [("moment", .int 0), ("grades", .ref p1), ("starts", .ref p2), ("stops", .ref p3), ("chains", .ref p4), ("holders", .ref p5), ("sights", .ref p6)]) X5 h6
    have S6 : Same H0 (upd (upd G5 p6 (.dT [])) x (.ins cE dx [("moment", .int 0), ("grades", .ref p1), ("starts", .ref p2), ("stops", .ref p3), ("chains", .ref p4), ("holders", .ref p5), ("sights", .ref p6)])) := same_upd (S5.trans (same_new h6)) hx0
    have z6 := none_of S5 h6
    obtain ⟨d1_6, Y1_6⟩ := st6 _ _ Y1_5 n1
    obtain ⟨d2_6, Y2_6⟩ := st6 _ _ Y2_5 n2
    obtain ⟨d3_6, Y3_6⟩ := st6 _ _ Y3_5 n3
    obtain ⟨d4_6, Y4_6⟩ := st6 _ _ Y4_5 n4
    obtain ⟨d5_6, Y5_6⟩ := st6 _ _ Y5_5 n5
    refine ⟨_, rfl, x, cE, dx, _, rfl, (by rw [upd_ne n6.symm]; exact X5), T.clEngine, T.nEngine_sights, (by show 6 < 1000; decide), ?_⟩
    have E6 : (upd (upd G5 p6 (.dT [])) x (.ins cE dx (putF "sights" (.ref p6) [("moment", .int 0), ("grades", .ref p1), ("starts", .ref p2), ("stops", .ref p3), ("chains", .ref p4), ("holders", .ref p5)]))) = upd (upd G5 p6 (.dT [])) x (.ins cE dx [("moment", .int 0), ("grades", .ref p1), ("starts", .ref p2), ("stops", .ref p3), ("chains", .ref p4), ("holders", .ref p5), ("sights", .ref p6)]) := rfl
    rw [E6]
    clear E6
    generalize upd (upd G5 p6 (.dT [])) x (.ins cE dx [("moment", .int 0), ("grades", .ref p1), ("starts", .ref p2), ("stops", .ref p3), ("chains", .ref p4), ("holders", .ref p5), ("sights", .ref p6)]) = G6 at X6 Y1_6 Y2_6 Y3_6 Y4_6 Y5_6 Y6_6 S6 ⊢
    clear st6
    refine fun p7 h7 => ?_
    obtain ⟨n7, X7, Y7_7, st7⟩ := init_step (o := .dK []) (i := .ins cE dx [("moment", .int 0), ("grades", .ref p1), ("starts", .ref p2), ("stops", .ref p3), ("chains", .ref p4), ("holders", .ref p5), ("sights", .ref p6), ("puts", .ref p7)]) X6 h7
    have S7 : Same H0 (upd (upd G6 p7 (.dK [])) x (.ins cE dx [("moment", .int 0), ("grades", .ref p1), ("starts", .ref p2), ("stops", .ref p3), ("chains", .ref p4), ("holders", .ref p5), ("sights", .ref p6), ("puts", .ref p7)])) := same_upd (S6.trans (same_new h7)) hx0
    have z7 := none_of S6 h7
    obtain ⟨d1_7, Y1_7⟩ := st7 _ _ Y1_6 n1
    obtain ⟨d2_7, Y2_7⟩ := st7 _ _ Y2_6 n2
    obtain ⟨d3_7, Y3_7⟩ := st7 _ _ Y3_6 n3
    obtain ⟨d4_7, Y4_7⟩ := st7 _ _ Y4_6 n4
    obtain ⟨d5_7, Y5_7⟩ := st7 _ _ Y5_6 n5
    obtain ⟨d6_7, Y6_7⟩ := st7 _ _ Y6_6 n6
    refine ⟨_, rfl, x, cE, dx, _, rfl, (by rw [upd_ne n7.symm]; exact X6), T.clEngine, T.nEngine_puts, (by show 7 < 1000; decide), ?_⟩
    have E7 : (upd (upd G6 p7 (.dK [])) x (.ins cE dx (putF "puts" (.ref p7) [("moment", .int 0), ("grades", .ref p1), ("starts", .ref p2), ("stops", .ref p3), ("chains", .ref p4), ("holders", .ref p5), ("sights", .ref p6)]))) = upd (upd G6 p7 (.dK [])) x (.ins cE dx [("moment", .int 0), ("grades", .ref p1), ("starts", .ref p2), ("stops", .ref p3), ("chains", .ref p4), ("holders", .ref p5), ("sights", .ref p6), ("puts", .ref p7)]) := rfl
    rw [E7]
    clear E7
    generalize upd (upd G6 p7 (.dK [])) x (.ins cE dx [("moment", .int 0), ("grades", .ref p1), ("starts", .ref p2), ("stops", .ref p3), ("chains", .ref p4), ("holders", .ref p5), ("sights", .ref p6), ("puts", .ref p7)]) = G7 at X7 Y1_7 Y2_7 Y3_7 Y4_7 Y5_7 Y6_7 Y7_7 S7 ⊢
    clear st7
    refine ⟨Nat.zero_le _, fun p8 h8 => ?_⟩
    obtain ⟨n8, X8, Y8_8, st8⟩ := init_step (o := .lst []) (i := .ins cE dx [("moment", .int 0), ("grades", .ref p1), ("starts", .ref p2), ("stops", .ref p3), ("chains", .ref p4), ("holders", .ref p5), ("sights", .ref p6), ("puts", .ref p7), ("looks", .ref p8)]) X7 h8
    have S8 : Same H0 (upd (upd G7 p8 (.lst [])) x (.ins cE dx [("moment", .int 0), ("grades", .ref p1), ("starts", .ref p2), ("stops", .ref p3), ("chains", .ref p4), ("holders", .ref p5), ("sights", .ref p6), ("puts", .ref p7), ("looks", .ref p8)])) := same_upd (S7.trans (same_new h8)) hx0
    have z8 := none_of S7 h8
    obtain ⟨d1_8, Y1_8⟩ := st8 _ _ Y1_7 n1
    obtain ⟨d2_8, Y2_8⟩ := st8 _ _ Y2_7 n2
    obtain ⟨d3_8, Y3_8⟩ := st8 _ _ Y3_7 n3
    obtain ⟨d4_8, Y4_8⟩ := st8 _ _ Y4_7 n4
    obtain ⟨d5_8, Y5_8⟩ := st8 _ _ Y5_7 n5
    obtain ⟨d6_8, Y6_8⟩ := st8 _ _ Y6_7 n6
    obtain ⟨d7_8, Y7_8⟩ := st8 _ _ Y7_7 n7
    refine ⟨_, rfl, x, cE, dx, _, rfl, (by rw [upd_ne n8.symm]; exact X7), T.clEngine, T.nEngine_looks, (by show 8 < 1000; decide), ?_⟩
    refine k _ (fun t => match t with | .obj => x | .grades => p1 | .starts => p2 | .stops => p3 | .chains => p4 | .holders => p5 | .sights => p6 | .puts => p7 | .looks => p8 | _ => x)
      (fun t => match t with | .obj => .ins cE dx [("moment", .int 0), ("grades", .ref p1), ("starts", .ref p2), ("stops", .ref p3), ("chains", .ref p4), ("holders", .ref p5), ("sights", .ref p6), ("puts", .ref p7), ("looks", .ref p8)] | .grades => .dK [] | .starts => .dK [] | .stops => .dK [] | .chains => .dK [] | .holders => .dK [] | .sights => .dT [] | .puts => .dK [] | .looks => .lst [] | _ => .lst []) ?_ rfl
    refine ⟨S8, ?_, ?_, ?_, ⟨dx, rfl⟩, ⟨[], rfl, Nat.le_refl _, fun n a b => by omega⟩, ⟨[], rfl, Nat.le_refl _, fun _ => rfl⟩, ⟨[], rfl, Nat.le_refl _, fun _ => rfl, [], rfl, List.nodup_nil⟩, ⟨[], rfl, Nat.le_refl _, fun _ => rfl, [], rfl, List.nodup_nil⟩,
      fun b rows h => by (cases h), ⟨[], rfl, Nat.le_refl _, fun _ => rfl⟩, ⟨[], rfl, Nat.le_refl _, fun _ _ => rfl⟩, ⟨[], rfl, Nat.le_refl _, fun n a b => by omega⟩, fun n a b => by omega, ⟨[], rfl, Nat.le_refl _, .nil⟩⟩
    · intro s hs
      cases s with
      | obj => exact hx0
      | grades => exact z1
      | starts => exact z2
      | stops => exact z3
      | chains => exact z4
      | holders => exact z5
      | sights => exact z6
      | puts => exact z7
      | looks => exact z8
      | chain b => exact absurd rfl hs
      | put n => have := hs.1; have := hs.2; omega
    · intro s hs
      cases s with
      | obj => exact X8
      | grades => exact Y1_8
      | starts => exact Y2_8
      | stops => exact Y3_8
      | chains => exact Y4_8
      | holders => exact Y5_8
      | sights => exact Y6_8
      | puts => exact Y7_8
      | looks => exact Y8_8
      | chain b => exact absurd rfl hs
      | put n => have := hs.1; have := hs.2; omega
    · intro s t hs ht h
      have np : ∀ n, ¬ Live 0 (init lv).E (.put n) := fun n z => by have := z.1; have := z.2; omega
      have nc : ∀ b, ¬ Live 0 (init lv).E (.chain b) := fun b z => z rfl
      cases s <;> cases t <;> first | rfl | exact absurd hs (np _) | exact absurd ht (np _) | exact absurd hs (nc _) | exact absurd ht (nc _) | exact absurd h (by assumption) | exact absurd h.symm (by assumption)
end
end K60

set_option Elab.async false
set_option linter.all false
set_option maxRecDepth 100000
set_option maxHeartbeats 8000000
/-! K61A: a deed. -/
namespace K60
open PySem L2 PySem.Spec
theorem engFs_put (L : Slot → Addr) (a b : Int) : putF "moment" (.int b) (engFs L a) = engFs L b := rfl
theorem newest_setL {E : Eng} : True := trivial
theorem laid_nil (E : Eng) (n : Int) : E.laid n [] = E := by
  unfold Eng.laid
  simp
theorem laid_snoc (E : Eng) (n b : Int) (bs : List Int) (h : b ∉ bs) :
    E.laid n (bs ++ [b]) = { E.laid n bs with chain := setf (E.laid n bs).chain b (some (E.rows b ++ [n])), hold := setf (E.laid n bs).hold b none } := by
  unfold Eng.laid
  congr 1
  · funext x
    by_cases e : x = b
    · subst e; simp [setf]
    · simp [setf, e]
  · funext x
    by_cases e : x = b
    · subst e; simp [setf]
    · simp [setf, e]
section
variable {P : Program} {w : World} {K : PySem.W.Frag} {mg : Str → Option Value} {base : Heap} {cC cE cR : Addr}
def spDo (K : PySem.W.Frag) (cE : Addr) : Sp := fun vs H Q _ => ∃ (N B : Nat) (H0 : Hp) (L : Slot → Addr) (g : Slot → HO) (E : Eng) (n : Int) (v : V) (st : Option Stp), vs = [.ref (L .obj), .int n, v] ∧ Rep K cE N B H0 H L g E ∧ 0 ≤ n ∧ n < N ∧ B ≤ 10000 ∧
  OptAt K H v st ∧ StepOk N E n st ∧ (E.put n).length ≤ 8 ∧ ∀ u H' L' g', Rep K cE N (B + 20) H0 H' L' g' (E.does n st) → L' .obj = L .obj → Q u H'
theorem ok_do {f : Addr} {fd : FuncData} (F : Fun K "do" "Engine.do" sEngine_do f fd) (T : Facts K mg cC cE cR) (m1 : C8.Met P w K mg base 2 cE "newest" (spNewest K cE) []) :
    FnOk P w K mg base CX0 3 f fd ["self", "number", "step"] (spDo K cE) := by
  refine F.ok sc_Engine_do (fun vs H Q E h => ?_) (fun cdv A outer s H vs Q E hr h => ?_)
  · obtain ⟨N, B, H0, L, g, E, n, v, st, rfl, _⟩ := h; rfl
  · obtain ⟨N, B, H0, L, g, E, n, v, st, rfl, R, n0, n1, hB, hv, hst, hp8, k⟩ := h
    have nd := sc_Engine_do.nd
    have hu1 := u1_of hr
    refine ⟨_, pss_cons (ps_expr (pe_dsetd (pe_fld (pv 0) rfl) (pv 1) (pe_op op_add (pe_fld (pv 0) rfl) pe_int) ⟨rfl, rfl, rfl, rfl⟩))
      (pss_cons (ps_set (i := 3) nd rfl (Or.inl rfl) pe_non)
      (pss_cons (ps_if (pt_cmpR op_isN (pv 2) pe_non (nomark _))
        (pss_cons (ps_for PassesOwn.never rfl (pi_list (pe_dget hu1 (pe_fld (pv 0) rfl) (pv 1) (fun _ _ => rfl))) (pg_name (i := 4) nd rfl (Or.inl rfl))
            (pss_cons (ps_expr (pe_bm PySem.F.plainAttrs_list PySem.F.slot_list_append PySem.F.type_list_append mt_append (pe_dsetd (pe_fld (pv 0) rfl) (pv 4) (pe_lst pa_nil) ⟨rfl, rfl, rfl, rfl⟩) (pa_cons (pv 1) pa_nil)))
            (pss_one (ps_expr (pe_dpop1 (pe_fld (pv 0) rfl) (pv 4) ⟨rfl, rfl, rfl, rfl⟩)))))
          (pss_one (ps_dput hu1 (pe_fld (pv 0) rfl) (pv 1) (pe_op op_add (pe_fld (pv 0) rfl) pe_int) rfl)))
        (pss_one (ps_if (pt_cmpR op_eq (pe_ix ix_tup (pv 2) pe_int (fun _ _ => rfl)) pe_str (nomark _))
          (pss_cons (ps_dput hu1 (pe_fld (pv 0) rfl) (pe_ix ix_tup (pv 2) pe_int (fun _ _ => rfl)) (pv 1) rfl)
            (pss_one (ps_expr (pe_bm PySem.F.plainAttrs_list PySem.F.slot_list_append PySem.F.type_list_append mt_append (pe_dget hu1 (pe_fld (pv 0) rfl) (pv 1) (fun _ _ => rfl)) (pa_cons (pe_ix ix_tup (pv 2) pe_int (fun _ _ => rfl)) pa_nil)))))
          (pss_cons (ps_set (i := 3) nd rfl (Or.inl rfl) (C8.pe_mt m1 hr (by decide) (pv 0) (pa_cons (pv 1) (pa_cons (pe_ix ix_tup (pv 2) pe_int (fun _ _ => rfl)) pa_nil))))
          (pss_cons (ps_dput hu1 (pe_fld (pv 0) rfl) (pe_tup (pa_cons (pv 1) (pa_cons (pe_ix ix_tup (pv 2) pe_int (fun _ _ => rfl)) pa_nil))) (pv 3) rfl)
            (pss_one (ps_expr (pe_bm PySem.F.plainAttrs_list PySem.F.slot_list_append PySem.F.type_list_append mt_append (pe_fld (pv 0) rfl) (pa_cons (pe_tup (pa_cons (pv 1) (pa_cons (pe_ix ix_tup (pv 2) pe_int (fun _ _ => rfl)) (pa_cons (pv 3) pa_nil)))) pa_nil)))))))))
      (pss_cons (ps_fldaug (pv 0) pe_int in_add)
      (pss_one (ps_ret (pv 3)))))), ?_⟩
    have sz : (20000 : Nat) < sizeLine := by decide
    -- begun
    obtain ⟨dx, hO⟩ := R.objF
    obtain ⟨kS, hkS, lS, vS⟩ := R.starts
    have hS := R.at_ .starts trivial
    rw [hkS] at hS
    refine ⟨_, rfl, _, _, _, _, _, rfl, hO, T.clEngine, T.nEngine_starts, rfl, L .starts, rfl, .inl ⟨_, .inl hS⟩, _, rfl, _, rfl, _, _, _, _, _, rfl, hO, T.clEngine, T.nEngine_moment, rfl, _, _, rfl, rfl, kS, .inl n, hS, rfl, by omega, ?_⟩
    have key : ∀ C : Hp → Prop, (∀ H1 g1, Rep K cE N (B + 1) H0 H1 L g1 (E.begun n) → TupS H H1 → C H1) →
        (∀ x, valV kS (.inl n) = some x → C H) ∧ (valV kS (.inl n) = none → C (upd H (L .starts) (.dK (putK kS (.inl n) (.int (E.mom + 1)))))) := by
      intro C hC
      have hv := vS n
      constructor
      · intro x hx
        refine hC H g ?_ ⟨fun _ _ h => h, fun _ _ _ h => h⟩
        have e : E.begun n = E := by
          cases h : E.start n with
          | none => rw [h, hx] at hv; cases hv
          | some s0 =>
            unfold Eng.begun Eng.startOf
            rw [h]
            have : setf E.start n (some ((some s0).getD (E.mom + 1))) = E.start := by
              funext m
              by_cases c : m = n
              · subst c; rw [setf_same, h]; rfl
              · rw [setf_ne _ _ c]
            rw [this]
        rw [e]
        exact R.grow (Nat.le_succ B)
      · intro hx
        have h : E.start n = none := by
          cases h : E.start n with
          | none => rfl
          | some s0 => rw [h, hx] at hv; cases hv
        have r := R.setStart hkS n (E.mom + 1)
        have e : E.begun n = { E with start := setf E.start n (some (E.mom + 1)) } := by
          unfold Eng.begun Eng.startOf; rw [h]; rfl
        rw [← e] at r
        exact hC _ _ r (TupS.dK hS)
    refine key _ fun H1 g1 R1 w1 => ?_
    clear key
    have hv1 : OptAt K H1 v st := hv.mono w1
    obtain ⟨dx1, hO1⟩ := R1.objF
    cases st with
    | none =>
      have e0 : v = .non := hv1
      subst e0
      refine ⟨_, rfl, rfl, true, rfl, iteT ?_⟩
      obtain ⟨s1, s2, s3, s4⟩ := hst
      obtain ⟨pD, pL⟩ := R1.putD n0 n1
      have epu : (E.begun n).put n = E.put n := rfl
      rw [epu] at pL
      refine ⟨_, rfl, _, _, _, _, _, rfl, hO1, T.clEngine, T.nEngine_puts, rfl, _, rfl, L .puts, _, rfl, pD, _, rfl, ⟨_, SqL.of pL⟩, for_list (K := K) (a := L (.put n)) (xs := (E.put n).map V.int)
        (fun i σ H' => ∃ o L' g', σ = [some (.ref (L .obj)), some (.int n), some .non, some .non, o] ∧ (∀ t, (∀ b, t ≠ .chain b) → L' t = L t) ∧ Rep K cE N (B + 1 + 2 * i) H0 H' L' g' ((E.begun n).laid n ((E.put n).take i)))
        ⟨none, L, g1, rfl, fun _ _ => rfl, by rw [List.take_zero, laid_nil]; exact R1⟩ (fun i σ H' _ ⟨o, L', g', _, hL, R'⟩ => by have := (R'.putD n0 n1).2; rw [hL _ (by intro b z; cases z)] at this; exact SqL.of this) ?_ ?_⟩
      · rintro i y σ H2 hy ⟨o, L', g', rfl, hL, R2⟩
        obtain ⟨b, hb, rfl⟩ := ints_get hy
        have hi := (List.getElem?_eq_some_iff.mp hb).1
        have e1 : (E.put n).take (i + 1) = (E.put n).take i ++ [b] := by rw [List.take_add_one, hb]; rfl
        have hnb : b ∉ (E.put n).take i := fun hm => by
          obtain ⟨j, hj, hj2⟩ := List.mem_iff_getElem.mp hm
          rw [List.getElem_take] at hj2
          rw [List.length_take] at hj
          have : j = i := (List.getElem?_inj (i := j) (j := i) (by omega) s3).mp (by rw [hb, List.getElem?_eq_getElem (by omega), hj2])
          omega
        have hO2 : L' .obj = L .obj := hL _ (by intro b z; cases z)
        obtain ⟨dx2, hO2'⟩ := R2.objF
        rw [hO2] at hO2'
        have elaid := laid_snoc (E.begun n) n b ((E.put n).take i) hnb
        rw [← e1] at elaid
        obtain ⟨kC, hkC, lC, vC, kiC⟩ := R2.chains
        have hC := R2.at_ .chains trivial
        rw [hkC] at hC
        have hb9 : B + 1 + 2 * i + 2 ≤ 20000 := by omega
        refine ⟨_, rfl, _, _, _, _, _, rfl, hO2', T.clEngine, T.nEngine_chains, rfl, L' .chains, rfl, .inl ⟨_, .inl hC⟩, _, rfl, Nat.zero_le _, fun p hp => ?_⟩
        have Sp := same_new (o := .lst []) hp
        have R3 := R2.mono Sp
        have hC3 := Sp _ _ hC
        have vb := vC b
        have chn : ((E.begun n).laid n ((E.put n).take i)).chain b = E.chain b := by simp [Eng.laid, hnb, Eng.begun]
        have hrw : (E.begun n).rows b = E.rows b := rfl
        -- behind the append: hold is popped
        have fin : ∀ H4 L4 g4, (∀ t, (∀ c, t ≠ .chain c) → L4 t = L t) → Rep K cE N (B + 1 + 2 * i + 2) H0 H4 L4 g4 { (E.begun n).laid n ((E.put n).take i) with chain := setf ((E.begun n).laid n ((E.put n).take i)).chain b (some (E.rows b ++ [n])) } →
            ∃ (kH : List (Key × V)) (x : V), H4 (L4 .holders) = some (.dK kH) ∧ valV kH (.inl b) = some x ∧ ∃ g5, Rep K cE N (B + 1 + 2 * (i + 1)) H0 (upd H4 (L4 .holders) (.dK (dropK kH (.inl b)))) L4 g5 ((E.begun n).laid n ((E.put n).take (i + 1))) := by
          intro H4 L4 g4 hL4 R4
          obtain ⟨kH, hkH, lH, vH⟩ := R4.holders
          have hH := R4.at_ .holders trivial
          rw [hkH] at hH
          have hne := s4 b (List.mem_of_getElem? hb)
          obtain ⟨x, hx⟩ := Option.ne_none_iff_exists'.mp hne
          refine ⟨kH, .int x, hH, ?_, setg g4 .holders (.dK (dropK kH (.inl b))), ?_⟩
          · rw [vH b]
            have : ((E.begun n).laid n ((E.put n).take i)).hold b = E.hold b := by simp [Eng.laid, hnb, Eng.begun]
            show Option.map V.int (((E.begun n).laid n ((E.put n).take i)).hold b) = _
            rw [this, hx]; rfl
          · have r := R4.popHold hkH b
            rw [elaid]
            exact r.grow (by omega)
        cases hch : E.chain b with
        | none =>
          rw [chn, hch] at vb
          refine ⟨kC, .inl b, hC3, rfl, by omega, (fun x hx => by rw [vb] at hx; cases hx), fun _ => ?_⟩
          have R4 := R2.newChain (b := b) (by rw [chn, hch]) hp hkC
          have hcb : ({ (E.begun n).laid n ((E.put n).take i) with chain := setf ((E.begun n).laid n ((E.put n).take i)).chain b (some []) } : Eng).chain b = some [] := setf_same _ _ _
          have R5 := R4.chainPut (b := b) (rows := []) hcb n
          have hp4 : (upd (upd H2 p (.lst [])) (L' .chains) (.dK (putK kC (.inl b) (.ref p)))) p = some (.lst []) := by
            have h := R4.at_ (.chain b) (by show ({ (E.begun n).laid n ((E.put n).take i) with chain := setf ((E.begun n).laid n ((E.put n).take i)).chain b (some []) } : Eng).chain b ≠ none; rw [hcb]; simp)
            rw [setL_same] at h
            rw [h, (R4.chain b [] hcb).1]; rfl
          have er : E.rows b = [] := by unfold Eng.rows; rw [hch]; rfl
          have eE : ({ (({ (E.begun n).laid n ((E.put n).take i) with chain := setf ((E.begun n).laid n ((E.put n).take i)).chain b (some []) } : Eng)) with chain := setf (setf ((E.begun n).laid n ((E.put n).take i)).chain b (some [])) b (some ([] ++ [n])) } : Eng) =
              { (E.begun n).laid n ((E.put n).take i) with chain := setf ((E.begun n).laid n ((E.put n).take i)).chain b (some (E.rows b ++ [n])) } := by
            have e2 : setf (setf ((E.begun n).laid n ((E.put n).take i)).chain b (some [])) b (some ([] ++ [n])) = setf ((E.begun n).laid n ((E.put n).take i)).chain b (some ([] ++ [n])) := by
              funext x
              by_cases c : x = b
              · subst c; rw [setf_same, setf_same]
              · rw [setf_ne _ _ c, setf_ne _ _ c, setf_ne _ _ c]
            rw [er, e2]
          have hL4 : ∀ t, (∀ c, t ≠ Slot.chain c) → setL L' (.chain b) p t = L t := fun t ht => by rw [setL_ne _ _ (ht b)]; exact hL t ht
          rw [setL_same] at R5
          obtain ⟨kH, x, h1, h2, g5, h3⟩ := fin _ _ _ hL4 (eE ▸ R5)
          have hO5 := (eE ▸ R5 : Rep K cE N (B + 1 + 2 * i + 1 + 1) H0 _ _ _ _).objF
          obtain ⟨dx5, hO5⟩ := hO5
          rw [hL4 _ (by intro c z; cases z)] at hO5
          refine ⟨.inl ⟨rfl, _, SqL.of hp4⟩, _, rfl, p, [], _, rfl, rfl, hp4, by decide, ?_⟩
          refine ⟨_, rfl, _, _, _, _, _, rfl, hO5, T.clEngine, T.nEngine_holders, rfl, setL L' (.chain b) p .holders, rfl, .inl ⟨_, .inl h1⟩, _, rfl, kH, .inl b, x, h1, rfl, h2, ?_⟩
          exact ⟨_, _, _, rfl, hL4, h3⟩
        | some rows =>
          rw [chn, hch] at vb
          refine ⟨kC, .inl b, hC3, rfl, by omega, (fun x hx => ?_), fun hx => by rw [vb] at hx; cases hx⟩
          rw [vb] at hx; cases hx
          have hcb : ((E.begun n).laid n ((E.put n).take i)).chain b = some rows := by rw [chn, hch]
          have R5 := R3.chainPut (b := b) (rows := rows) hcb n
          have er : E.rows b = rows := by unfold Eng.rows; rw [hch]; rfl
          have hp4 : (upd H2 p (.lst [])) (L' (.chain b)) = some (.lst (rows.map V.int)) := by
            rw [R3.at_ (.chain b) (by show ((E.begun n).laid n ((E.put n).take i)).chain b ≠ none; rw [hcb]; simp), (R3.chain b rows hcb).1]
          have hrl := (R3.chain b rows hcb).2
          rw [List.map_append] at R5
          rw [← er] at R5
          obtain ⟨kH, x, h1, h2, g5, h3⟩ := fin _ _ _ hL (R5.grow (by omega))
          obtain ⟨dx5, hO5⟩ := R5.objF
          rw [hO2] at hO5
          refine ⟨.inl ⟨rfl, _, SqL.of hp4⟩, _, rfl, L' (.chain b), _, _, rfl, rfl, hp4, by rw [List.length_map]; omega, ?_⟩
          rw [er] at h1 h3 hO5
          refine ⟨_, rfl, _, _, _, _, _, rfl, hO5, T.clEngine, T.nEngine_holders, rfl, L' .holders, rfl, .inl ⟨_, .inl h1⟩, _, rfl, kH, .inl b, x, h1, rfl, h2, ?_⟩
          exact ⟨_, _, _, rfl, hL, h3⟩
      · rintro σ H2 ⟨o, L', g', rfl, hL, R2⟩
        rw [List.length_map, List.take_length] at R2
        have hO2 : L' .obj = L .obj := hL _ (by intro b z; cases z)
        obtain ⟨dx2, hO2'⟩ := R2.objF
        obtain ⟨kT, hkT, lT, vT, _⟩ := R2.stops
        have hT := R2.at_ .stops trivial
        rw [hkT] at hT
        have R3 := R2.setStop hkT n (E.mom + 1)
        obtain ⟨dx3, ho3⟩ := R3.obj
        have hO3 := R3.at_ .obj trivial
        rw [ho3] at hO3
        have R4 := R3.bump (m := E.mom + 1) rfl ho3
        rw [hO2] at hO2' hO3 R4
        refine ⟨_, rfl, _, _, _, _, _, rfl, hO2', T.clEngine, T.nEngine_moment, rfl, _, _, rfl, rfl, ?_⟩
        refine ⟨_, rfl, _, _, _, _, _, rfl, hO2', T.clEngine, T.nEngine_stops, rfl, _, rfl, L' .stops, _, rfl, DPut.k (k := .inl n) hT (by omega), ?_⟩
        refine ⟨_, rfl, L .obj, cE, dx3, _, _, rfl, hO3, T.clEngine, T.nEngine_moment, rfl, _, _, rfl, rfl, dx3, _, hO3, (by show 9 < 1000; decide), ?_⟩
        refine ⟨_, rfl, k _ _ _ _ (R4.grow (by omega)) hO2⟩
    | some sb =>
      obtain ⟨t, rfl, ht⟩ := hv1
      refine ⟨_, rfl, rfl, false, rfl, iteF ?_⟩
      refine ⟨_, rfl, t, _, _, _, rfl, rfl, ht, atI_nat (j := 0) rfl, rfl, sb.1, congrArg V.bl (wd_write _), ?_⟩
      obtain ⟨wr, b⟩ := sb
      cases wr with
      | true =>
        refine iteT ?_
        obtain ⟨kH, hkH, lH, vH⟩ := R1.holders
        have hH := R1.at_ .holders trivial
        rw [hkH] at hH
        have R2 := R1.setHold hkH b n
        obtain ⟨dx2, hO2⟩ := R2.objF
        obtain ⟨pD, pL⟩ := R2.putD n0 n1
        have R3 := R2.addPut n0 n1 b
        rw [List.map_append] at R3
        obtain ⟨dx3, ho3⟩ := R3.obj
        have hO3 := R3.at_ .obj trivial
        rw [ho3] at hO3
        have R4 := R3.bump (m := E.mom + 1) rfl ho3
        have wH := TupS.dK (u := .dK (putK kH (.inl b) (.int n))) hH
        have ht2 := wH.tup ht
        refine ⟨_, rfl, _, rfl, _, _, _, _, _, rfl, hO1, T.clEngine, T.nEngine_holders, rfl, _, rfl, t, _, _, _, rfl, rfl, ht, atI_nat (j := 1) rfl, L .holders, _, rfl, DPut.k (k := .inl b) hH (by omega), ?_⟩
        refine ⟨_, rfl, _, _, _, _, _, rfl, hO2, T.clEngine, T.nEngine_puts, rfl, _, rfl, L .puts, _, rfl, pD, .inl ⟨rfl, _, SqL.of pL⟩, _, rfl, t, _, _, _, rfl, rfl, ht2, atI_nat (j := 1) rfl, L (.put n), _, _, rfl, rfl, pL, ?_, ?_⟩
        · rw [List.length_map]
          show (E.put n).length < sizeLine
          omega
        refine ⟨_, rfl, L .obj, cE, dx3, _, _, rfl, hO3, T.clEngine, T.nEngine_moment, rfl, _, _, rfl, rfl, dx3, _, hO3, (by show 9 < 1000; decide), ?_⟩
        exact ⟨_, rfl, k _ _ _ _ (R4.grow (by omega)) rfl⟩
      | false =>
        refine iteF ?_
        have s1 : ∀ x ∈ E.rows b, E.stop x ≠ none := hst
        refine ⟨_, rfl, L .obj, dx1, _, rfl, hO1, rfl, _, rfl, _, rfl, t, _, _, _, rfl, rfl, ht, atI_nat (j := 1) rfl, N, B + 1, H0, L, g1, E.begun n, n, b, rfl, R1, n0, n1, s1, fun H2 S2 => ?_⟩
        have R2 := R1.mono S2
        obtain ⟨dx2, hO2⟩ := R2.objF
        have ht2 := same_tup S2 ht
        refine ⟨_, rfl, _, rfl, _, _, _, _, _, rfl, hO2, T.clEngine, T.nEngine_sights, rfl, _, rfl, _, rfl, t, _, _, _, rfl, rfl, ht2, atI_nat (j := 1) rfl, Nat.le_of_ble_eq_true rfl, fun u hu => ?_⟩
        have Su := same_new (o := .tup [.int n, .int b]) hu
        have R3 := R2.mono Su
        obtain ⟨kI, hkI, lI, vI⟩ := R3.sights
        have hI := R3.at_ .sights trivial
        rw [hkI] at hI
        have R4 := R3.setSight hkI n b ((E.begun n).newest n b)
        obtain ⟨dx4, hO4⟩ := R4.objF
        have wI := TupS.dT (u := .dT (putK kI [.inl n, .inl b] (.int ((E.begun n).newest n b)))) hI
        have ht4 := wI.tup (same_tup Su ht2)
        obtain ⟨lk, hlk, llk, plk⟩ := R4.looks
        have hLk := R4.at_ .looks trivial
        rw [hlk] at hLk
        have lkl := paired_len plk
        refine ⟨L .sights, _, rfl, DPut.t (k := [.inl n, .inl b]) hI upd_same (by omega), ?_⟩
        refine ⟨_, rfl, _, _, _, _, _, rfl, hO4, T.clEngine, T.nEngine_looks, rfl, .inl ⟨rfl, _, SqL.of hLk⟩, _, rfl, _, rfl, t, _, _, _, rfl, rfl, ht4, atI_nat (j := 1) rfl, _, rfl, Nat.le_of_ble_eq_true rfl, fun y hy => ?_⟩
        have Sy := same_new (o := .tup [.int n, .int b, .int ((E.begun n).newest n b)]) hy
        have R5 := R4.mono Sy
        have R6 := R5.addLook hlk (t := y) (n := n) (b := b) (x := (E.begun n).newest n b) (SqT.of upd_same)
        obtain ⟨dx6, ho6⟩ := R6.obj
        have hO6 := R6.at_ .obj trivial
        rw [ho6] at hO6
        have R7 := R6.bump (m := E.mom + 1) rfl ho6
        refine ⟨L .looks, _, _, rfl, rfl, Sy _ _ hLk, by omega, ?_⟩
        refine ⟨_, rfl, L .obj, cE, dx6, _, _, rfl, hO6, T.clEngine, T.nEngine_moment, rfl, _, _, rfl, rfl, dx6, _, hO6, (by show 9 < 1000; decide), ?_⟩
        exact ⟨_, rfl, k _ _ _ _ (R7.grow (by omega)) rfl⟩
end
end K60

set_option Elab.async false
set_option linter.all false
set_option maxRecDepth 100000
set_option maxHeartbeats 8000000
/-! K61B: a weaving gone through. -/
namespace K60
open PySem L2 PySem.Spec
theorem pe_mk0 {X : Cx} {k j : Nat} {x : Str} {C : Addr} {sp : Sp} {dvs : List V} {p pos : Pos} (c : C8.Mak X.prog X.w X.K X.mg X.base k x C sp dvs) (hr : Room j X.A) (hk : k + 1 ≤ j) (hg : Gl X x) (hdb : (x == ("__debug__" : Str)) = false := by decide) :
    PE X (.Call (.Name x p) [] [] pos) (tMake C sp dvs C8.E0 tNil) := by
  obtain ⟨f, fd, ps, ds, M, F, hm, b, d⟩ := c.ex
  exact pe_make0 M F (hr.mono hk) hg hm b d C8.pass0 hdb
def ranAt (ds : List Deal) (ls : List Lv) (ws : List Int) (i : Nat) : RunSt := runR (dlOf ds) (init (lvOf ls)) (ws.take i)
structure GoesW (ds : List Deal) (ls : List Lv) (ws : List Int) : Prop where
  ok : ∀ (i : Nat) (n : Int), ws[i]? = some n → 0 ≤ n ∧ n < ds.length ∧ (ranAt ds ls ws i).done n ≤ (dlOf ds n).length ∧ StepOk ds.length (ranAt ds ls ws i).E n (nextStep (dlOf ds) (ranAt ds ls ws i) n)
  n60 : ds.length ≤ 60
  few : ws.length ≤ 100
def BarAt (ds : List Deal) (ls : List Lv) (ws : List Int) (i : Nat) : Prop := ∃ n : Int, ws[i]? = some n ∧ nextStep (dlOf ds) (ranAt ds ls ws i) n = none ∧ (ranAt ds ls ws i).E.BarEnd n
theorem ran_step {ds : List Deal} {ls : List Lv} {ws : List Int} {i : Nat} {n : Int} (h : ws[i]? = some n) : ranAt ds ls ws (i + 1) = goR (dlOf ds) (ranAt ds ls ws i) n := by
  unfold ranAt
  rw [List.take_add_one, h, Option.toList_some, runR_snoc]
theorem put_le {D : Int → Deal} {R : RunSt} (h : ∀ m, (R.E.put m).length ≤ R.done m) (n : Int) : ∀ m, ((goR D R n).E.put m).length ≤ (goR D R n).done m := by
  intro m
  have hm := h m
  have hn := h n
  have key : ((goR D R n).E.put m).length ≤ (setf R.done n (R.done n + 1)) m := by
    unfold goR Eng.does
    cases nextStep D R n with
    | none =>
      show (R.E.put m).length ≤ _
      by_cases e : m = n
      · subst e; rw [setf_same]; omega
      · rw [setf_ne _ _ e]; exact hm
    | some s =>
      obtain ⟨w, b⟩ := s
      cases w with
      | true =>
        show (setf R.E.put n (R.E.put n ++ [b]) m).length ≤ _
        by_cases e : m = n
        · subst e; rw [setf_same, setf_same, List.length_append]; simp; omega
        · rw [setf_ne _ _ e, setf_ne _ _ e]; exact hm
      | false =>
        show (R.E.put m).length ≤ _
        by_cases e : m = n
        · subst e; rw [setf_same]; omega
        · rw [setf_ne _ _ e]; exact hm
  exact key
theorem put_ran (ds : List Deal) (ls : List Lv) (ws : List Int) : ∀ (i : Nat) m, ((ranAt ds ls ws i).E.put m).length ≤ (ranAt ds ls ws i).done m
  | 0, m => by simp [ranAt, runR, init]
  | i + 1, m => by
    cases h : ws[i]? with
    | some n => rw [ran_step h]; exact put_le (put_ran ds ls ws i) n m
    | none =>
      have : ranAt ds ls ws (i + 1) = ranAt ds ls ws i := by
        unfold ranAt
        rw [List.take_add_one, h]; simp
      rw [this]; exact put_ran ds ls ws i m
def doneOf (N : Nat) (R : RunSt) : List V := (List.range N).map fun m : Nat => V.int ((R.done (m : Int) : Nat) : Int)
theorem doneOf_at {N : Nat} {R : RunSt} {j : Nat} (h : j < N) : (doneOf N R)[j]? = some (.int ((R.done (j : Int) : Nat) : Int)) := by
  unfold doneOf
  rw [List.getElem?_map, List.getElem?_range h]; rfl
theorem doneOf_len (N : Nat) (R : RunSt) : (doneOf N R).length = N := by simp [doneOf]
theorem doneOf_step {N : Nat} {D : Int → Deal} {R : RunSt} {j : Nat} (hj : j < N) : (doneOf N R).set j (.int (((R.done (j : Int) : Nat) : Int) + 1)) = doneOf N (goR D R (j : Int)) := by
  apply List.ext_getElem?
  intro m
  by_cases hm : m < N
  · by_cases hmj : m = j
    · subst hmj
      rw [List.getElem?_set_self (by rw [doneOf_len]; exact hm), doneOf_at hm]
      show _ = some (V.int ((setf R.done (m : Int) (R.done (m : Int) + 1) (m : Int) : Nat) : Int))
      rw [setf_same]; congr 2
    · rw [List.getElem?_set_ne (fun z => hmj z.symm), doneOf_at hm, doneOf_at hm]
      show _ = some (V.int ((setf R.done (j : Int) (R.done (j : Int) + 1) (m : Int) : Nat) : Int))
      rw [setf_ne _ _ (by omega)]
  · rw [List.getElem?_eq_none (by rw [List.length_set, doneOf_len]; omega), List.getElem?_eq_none (by rw [doneOf_len]; omega)]
section
variable {P : Program} {w : World} {K : PySem.W.Frag} {mg : Str → Option Value} {base : Heap} {cC cE cR : Addr}
/-- another cell is taken into what lies beneath -/
theorem Rep.rebase {N B : Nat} {H0 H : Hp} {L : Slot → Addr} {g : Slot → HO} {E : Eng} (R : Rep K cE N B H0 H L g E) {d : Addr} (hd : H d = none) (o : HO) : Rep K cE N B (upd H0 d o) (upd H d o) L g E := by
  have R' := R.mono (same_new (o := o) hd)
  have ne : ∀ s, Live N E s → L s ≠ d := fun s hs z => by
    have := R.at_ s hs
    rw [z, hd] at this; cases this
  exact { R' with
    base := fun b u hb => by
      by_cases e : b = d
      · subst e; rw [upd_same] at hb ⊢; exact hb
      · rw [upd_ne e] at hb ⊢; exact R.base b u hb
    new := fun s hs => by rw [upd_ne (ne s hs)]; exact R.new s hs }
theorem Rep.side {N B : Nat} {H0 H : Hp} {L : Slot → Addr} {g : Slot → HO} {E : Eng} {d : Addr} {xs : List V} (R : Rep K cE N B (upd H0 d (.lst xs)) H L g E) (ys : List V) : Rep K cE N B (upd H0 d (.lst ys)) (upd H d (.lst ys)) L g E := by
  have hd : H d = some (.lst xs) := R.base d _ upd_same
  have ne : ∀ s, Live N E s → L s ≠ d := fun s hs z => by
    have := R.new s hs
    rw [z, upd_same] at this; cases this
  exact { R with
    base := fun b u hb => by
      by_cases e : b = d
      · subst e; rw [upd_same] at hb ⊢; exact hb
      · rw [upd_ne e] at hb ⊢; exact R.base b u (by rw [upd_ne e]; exact hb)
    new := fun s hs => by have := R.new s hs; rw [upd_ne (ne s hs)] at this ⊢; exact this
    at_ := fun s hs => by rw [upd_ne (ne s hs)]; exact R.at_ s hs
    looks := R.lk (TupS.lst hd) }
def spGone (K : PySem.W.Frag) (cE : Addr) : Sp := fun vs H Q _ => ∃ (v u : V) (q : Addr) (ds : List Deal) (ls : List Lv) (ws : List Int), vs = [v, u, .ref q] ∧ DealsAt K H v ds ∧ DsOk ds ∧ LvsAt K H u ls ∧ ls.length = ds.length ∧ SqL K H q (ws.map V.int) ∧ GoesW ds ls ws ∧
  (∀ H' t L g B, (∀ i, ¬ BarAt ds ls ws i) → Rep K cE ds.length B H H' L g (ranAt ds ls ws ws.length).E → B ≤ 2200 → H' t = some (.tup [.ref (L .obj), .non]) → Q (.ref t) H') ∧
  ∀ H' t p e i y, BarAt ds ls ws i → Same H H' → H' t = some (.tup [e, .ref p]) → H' p = some (.tup [.int (i : Nat), .str "chain", .int y]) → Q (.ref t) H'
theorem ok_gone_through {f : Addr} {fd : FuncData} (F : Fun K "gone_through" "gone_through" s_gone_through f fd) (T : Facts K mg cC cE cR) (mk : C8.Mak P w K mg base 1 "Engine" cE (spEInit K cE) []) (m1 : C8.Met P w K mg base 1 cE "enter" (spEnter K cE) []) (m2 : C8.Met P w K mg base 5 cE "bar_of" (spBarOf K cE) []) (m3 : C8.Met P w K mg base 3 cE "do" (spDo K cE) []) :
    FnOk P w K mg base CX0 6 f fd ["dealings", "levels", "weaving"] (spGone K cE) := by
  refine F.ok sc_gone_through (fun vs H Q E h => ?_) (fun cdv A outer s H vs Q E hr h => ?_)
  · obtain ⟨v, u, q, ds, ls, ws, rfl, _⟩ := h; rfl
  · obtain ⟨v, u, q, ds, ls, ws, rfl, hD, okD, hL, hl, hq, G, k1, k2⟩ := h
    have nd := sc_gone_through.nd
    refine ⟨_, pss_cons (ps_set (i := 3) nd rfl (Or.inl rfl) (pe_mk0 mk hr (by decide) rfl))
      (pss_cons (ps_for PassesOwn.never rfl (pi_enum (by rfl) T.z_enumerate (pa_cons (pv 1) pa_nil)) (pg_tup rfl (pgs_cons (pg_name (i := 4) nd rfl (Or.inl rfl)) (pgs_cons (pg_name (i := 5) nd rfl (Or.inl rfl)) pgs_nil)))
        (pss_one (ps_expr (C8.pe_mt m1 hr (by decide) (pv 3) (pa_cons (pv 4) (pa_cons (pv 5) pa_nil))))))
      (pss_cons (ps_setLc (i := 6) (own := [("dealing", 13)]) (g := gName 13) (tt := tYes) (te := tC (.int 0)) rfl nd rfl rfl (sw_true rfl rfl rfl (by decide +kernel)) (pi_list (pv 0)) (blkOk_by (own := [("dealing", 13)]) (N := ["dealings", "levels", "weaving", "engine", "number", "level", "done", "place", "at", "step", "bar", "why", "by", "dealing"]) (sc := defScope s_gone_through) (by decide +kernel))
          (fun _ _ _ _ _ => pg_name (i := 13) nd rfl (Or.inl rfl)) (fun _ _ _ _ _ => pts_nil) (fun _ _ _ _ _ => pe_int))
      (pss_cons (ps_for PassesOwn.never rfl (pi_enum (by rfl) T.z_enumerate (pa_cons (pv 2) pa_nil)) (pg_tup rfl (pgs_cons (pg_name (i := 7) nd rfl (Or.inl rfl)) (pgs_cons (pg_name (i := 4) nd rfl (Or.inl rfl)) pgs_nil)))
        (pss_cons (ps_set (i := 8) nd rfl (Or.inl rfl) (pe_ix ix_list (pv 6) (pv 4) (fun _ _ => rfl)))
        (pss_cons (ps_set (i := 9) nd rfl (Or.inl rfl) (pe_ifExp (pt_cmpR op_lt (pv 8) (pe_callB call_len_seq (by rfl) T.z_len PySem.boot_len (pa_cons (pe_ix ix_list (pv 0) (pv 4) (fun _ _ => rfl)) pa_nil)) (nomark _)) (pe_ix ix_tup (pe_ix ix_list (pv 0) (pv 4) (fun _ _ => rfl)) (pv 8) (fun _ _ => rfl)) pe_non))
        (pss_cons (ps_set (i := 10) nd rfl (Or.inl rfl) (C8.pe_mt m2 hr (by decide) (pv 3) (pa_cons (pv 4) (pa_cons (pv 9) pa_nil))))
        (pss_cons (ps_if (pt_cmpR op_notN (pv 10) pe_non (nomark _))
            (pss_cons (ps_asg (pv 10) (pg_tup (by rfl) (pgs_cons (pg_name (i := 11) nd rfl (Or.inl rfl)) (pgs_cons (pg_name (i := 12) nd rfl (Or.inl rfl)) pgs_nil))))
              (pss_one (ps_ret (pe_tup (pa_cons (pv 3) (pa_cons (pe_tup (pa_cons (pv 7) (pa_cons (pv 11) (pa_cons (pv 12) pa_nil)))) pa_nil)))))) pss_nil)
        (pss_cons (ps_expr (C8.pe_mt m3 hr (by decide) (pv 3) (pa_cons (pv 4) (pa_cons (pv 9) pa_nil))))
        (pss_one (ps_augS (pv 6) (pv 4) pget_list pe_int ip_add set_list))))))))
      (pss_one (ps_ret (pe_tup (pa_cons (pv 3) (pa_cons pe_non pa_nil)))))))), ?_⟩
    intro x dx hx hdx hne
    have hx1 : (upd H dx (.own x)) x = none := by rw [upd_ne (Ne.symm hne)]; exact hx
    have Sx : Same H (upd (upd H dx (.own x)) x (.ins cE dx [])) := (same_new hdx).trans (same_new hx1)
    refine ⟨H, x, dx, lvOf ls, rfl, upd_same, Sx, hx, fun H1 L1 g1 R1 hL1 => ⟨rfl, ?_⟩⟩
    obtain ⟨pl, rfl, hpl⟩ := id hL
    have hlen : (ls.map fun l => V.str (lvS l)).length = ds.length := by rw [List.length_map, hl]
    refine ⟨_, rfl, pl, _, rfl, R1.base.seq hpl, for_enum (K := K) (a := pl) (xs := ls.map fun l => V.str (lvS l))
      (fun i σ H' => ∃ o1 o2 L g, σ = [some v, some (.ref pl), some (.ref q), some (.ref x), o1, o2, none, none, none, none, none, none, none, none] ∧ L .obj = x ∧ Rep K cE i i H H' L g (init (lvOf ls)).E)
      ⟨none, none, L1, g1, rfl, hL1, R1⟩ (fun i σ H' _ ⟨_, _, _, _, _, _, R⟩ => R.base.seq hpl) ?_ ?_⟩
    · rintro i y σ H2 t hy ⟨o1, o2, L, g, rfl, hLx, R⟩ ht
      have hi := (List.getElem?_eq_some_iff.mp hy).1
      rw [hlen] at hi
      have hy2 : y = .str (lvS (lvOf ls (i : Nat))) := by
        have := lv_at (ls := ls) (i := (i : Nat)) (by omega) (by omega)
        rw [atI_nat hy] at this
        exact Option.some.inj this
      subst hy2
      have St := same_new (o := .tup [.int (i : Nat), .str (lvS (lvOf ls (i : Nat)))]) ht
      have R2 := R.mono St
      obtain ⟨dx2, hO2⟩ := R2.objF
      refine ⟨t, _, rfl, SqT.of upd_same, rfl, _, _, rfl, _, _, rfl, rfl, ?_⟩
      refine ⟨_, rfl, x, dx2, _, rfl, hLx ▸ hO2, rfl, _, rfl, _, rfl, i, i, H, L, g, (init (lvOf ls)).E, by rw [hLx]; rfl, R2, rfl, by have := G.n60; omega, fun H3 L3 g3 R3 hL3 => ?_⟩
      exact ⟨_, _, L3, g3, rfl, hL3.trans hLx, R3⟩
    rintro σ H2 ⟨o1, o2, L2, g2, rfl, hL2, R2⟩
    rw [hlen] at R2
    -- done
    obtain ⟨pd, us, rfl, hpd, hus⟩ := id hD
    have hul := paired_len hus
    have hpd2 := R2.base.seq hpd
    refine ⟨_, rfl, pd, rfl, ⟨us, hpd2⟩, fun D hD0 => lc_list (K := K) (a := pd) (xs := us) (fun i H' => H' = upd H2 D (.lst (List.replicate i (.int 0)))) rfl (fun i H' _ e => by rw [e]; exact (same_new hD0).seq hpd2) ?_ ?_⟩
    · rintro i y H3 hy rfl
      have hi := (List.getElem?_eq_some_iff.mp hy).1
      refine ⟨rfl, yesT ⟨_, upd_same, ?_, ?_⟩⟩
      · rw [List.length_replicate]; exact small1000 (by have := G.n60; omega)
      · rw [upd_upd, List.replicate_succ']
    rintro H3 rfl
    have ed : List.replicate us.length (V.int 0) = doneOf ds.length (ranAt ds ls ws 0) := by
      apply List.ext_getElem?
      intro m
      by_cases hm : m < ds.length
      · rw [doneOf_at hm, List.getElem?_replicate, if_pos (by omega)]; rfl
      · rw [List.getElem?_eq_none (by rw [List.length_replicate]; omega), List.getElem?_eq_none (by rw [doneOf_len]; omega)]
    rw [ed]
    have R3 := R2.rebase hD0 (.lst (doneOf ds.length (ranAt ds ls ws 0)))
    have hD00 : H D = none := none_of R2.base hD0
    have sideS : ∀ {H' : Hp} {L g B E} {xs : List V}, Rep K cE ds.length B (upd H D (.lst xs)) H' L g E → Same H H' := fun R => (same_new hD00).trans R.base
    have hq3 : SqL K (upd H2 D (.lst (doneOf ds.length (ranAt ds ls ws 0)))) q (ws.map V.int) := (sideS R3).seq hq
    refine ⟨_, rfl, q, _, rfl, hq3, for_enum (K := K) (a := q) (xs := ws.map V.int)
      (fun i σ H' => ∃ o4 o5 o7 o8 o9 o10 o11 o12 L g, σ = [some (.ref pd), some (.ref pl), some (.ref q), some (.ref x), o4, o5, some (.ref D), o7, o8, o9, o10, o11, o12, none] ∧ L .obj = x ∧ (∀ j < i, ¬ BarAt ds ls ws j) ∧
        Rep K cE ds.length (ds.length + 20 * i) (upd H D (.lst (doneOf ds.length (ranAt ds ls ws i)))) H' L g (ranAt ds ls ws i).E)
      ⟨_, _, _, _, _, _, _, _, L2, g2, rfl, hL2, fun _ h => absurd h (Nat.not_lt_zero _), R3⟩ (fun i σ H' _ ⟨_, _, _, _, _, _, _, _, L, g, _, _, _, R⟩ => (sideS R).seq hq) ?_ ?_⟩
    · rintro i y σ H4 t hy ⟨o4, o5, o7, o8, o9, o10, o11, o12, L, g, rfl, hLx, hno, R⟩ ht
      obtain ⟨n, hn, rfl⟩ := ints_get hy
      have hi := (List.getElem?_eq_some_iff.mp hn).1
      obtain ⟨n0, n1, dl, ok⟩ := G.ok i n hn
      obtain ⟨j, rfl⟩ := Int.eq_ofNat_of_zero_le n0
      have hj : j < ds.length := by omega
      have St := same_new (o := .tup [.int (i : Nat), .int (j : Nat)]) ht
      have R5 := R.mono St
      have S5 := sideS R5
      have hdone : (upd H4 t (.tup [.int (i : Nat), .int (j : Nat)])) D = some (.lst (doneOf ds.length (ranAt ds ls ws i))) := R5.base D _ upd_same
      have hpd5 := S5.seq hpd
      obtain ⟨ud, hud, hdd⟩ := dl_at hus n0 n1
      obtain ⟨pu, uu, rfl, hpu, huu⟩ := hdd.mono S5
      have huul := paired_len huu
      have h8 := dl_len okD ⟨n0, n1⟩
      refine ⟨t, _, rfl, SqT.of upd_same, rfl, _, _, rfl, _, _, rfl, rfl, ?_⟩
      refine ⟨_, rfl, _, rfl, D, _, _, _, rfl, rfl, SqL.of hdone, atI_nat (doneOf_at hj), ?_⟩
      generalize hH5 : upd H4 t (.tup [.int (i : Nat), .int (j : Nat)]) = H5 at R5 S5 hdone hpd5 hpu huu
      refine ⟨_, rfl, _, rfl, _, rfl, pd, us, _, _, rfl, rfl, hpd5, hud, pu, _, rfl, .inr hpu, _, _, rfl, rfl, _, rfl, ?_⟩
      obtain ⟨dx5, hO5⟩ := R5.objF
      have p8 : ((ranAt ds ls ws i).E.put (j : Int)).length ≤ 8 := Nat.le_trans (put_ran ds ls ws i _) (by omega)
      have hB : ds.length + 20 * i ≤ 10000 := by have := G.n60; have := G.few; rw [List.length_map] at *; omega
      have key : ∀ (σ5 : List (Option V)) (Q' : VK), σ5[0]? = some (some (.ref pd)) → σ5[4]? = some (some (.int (j : Nat))) → σ5[8]? = some (some (.int ((ranAt ds ls ws i).done (j : Int) : Nat))) →
          (∀ sv, OptAt K H5 sv (nextStep (dlOf ds) (ranAt ds ls ws i) (j : Int)) → Q' sv H5) →
          (if (decide ((((ranAt ds ls ws i).done (j : Int) : Nat) : Int) < (uu.length : Nat))) = true then tOp (rIxT K) (tOp (rIxL K) (tVar 0) (tVar 4)) (tVar 8) σ5 H5 Q' else tC .non σ5 H5 Q') := by
        intro σ5 Q' e0 e4 e8 hQ
        by_cases c : (ranAt ds ls ws i).done (j : Int) < uu.length
        · obtain ⟨s, hs, hss⟩ := paired_get huu (List.getElem?_eq_getElem c)
          have hsv : OptAt K H5 uu[(ranAt ds ls ws i).done (j : Int)] (nextStep (dlOf ds) (ranAt ds ls ws i) (j : Int)) := by unfold nextStep; rw [hs]; exact hss
          rw [decide_eq_true (show (((ranAt ds ls ws i).done (j : Int) : Nat) : Int) < (uu.length : Nat) by omega)]
          exact iteT ⟨_, e0, _, e4, pd, us, _, _, rfl, rfl, hpd5, hud, _, e8, pu, uu, _, _, rfl, rfl, hpu, atI_nat (List.getElem?_eq_getElem c), hQ _ hsv⟩
        · have hsv : OptAt K H5 .non (nextStep (dlOf ds) (ranAt ds ls ws i) (j : Int)) := by unfold nextStep; rw [List.getElem?_eq_none (by omega)]; rfl
          rw [decide_eq_false (show ¬ (((ranAt ds ls ws i).done (j : Int) : Nat) : Int) < (uu.length : Nat) by omega)]
          exact iteF (hQ _ hsv)
      refine key _ _ rfl rfl rfl fun sv hsv => ?_
      refine ⟨_, rfl, x, dx5, _, rfl, hLx ▸ hO5, rfl, _, rfl, _, rfl, ds.length, _, _, L, g, _, _, _, _, by rw [hLx]; rfl, R5, n0, n1, G.n60, hsv, ok, fun H6 S6 hnb => ?_, fun H6 t6 y6 S6 hnx hb6 ht6 => ?_⟩
      · refine ⟨_, rfl, rfl, false, rfl, iteF ?_⟩
        have R6 := R5.mono S6
        obtain ⟨dx6, hO6⟩ := R6.objF
        refine ⟨_, rfl, x, dx6, _, rfl, hLx ▸ hO6, rfl, _, rfl, _, rfl, ds.length, _, _, L, g, _, _, _, _, by rw [hLx]; rfl, R6, n0, n1, hB, hsv.mono (TupS.of S6), ok, p8, fun uv H7 L7 g7 R7 hL7 => ?_⟩
        have hd7 : H7 D = some (.lst (doneOf ds.length (ranAt ds ls ws i))) := R7.base D _ upd_same
        refine ⟨_, rfl, _, rfl, D, _, j, _, rfl, rfl, SqL.of hd7, doneOf_at hj, _, _, rfl, rfl, D, _, _, j, rfl, rfl, hd7, ixN_j (by rw [doneOf_len]; exact hj), ?_⟩
        have R8 := R7.side ((doneOf ds.length (ranAt ds ls ws i)).set j (.int (((ranAt ds ls ws i).done (j : Int) : Nat) + 1)))
        have ed2 := doneOf_step (N := ds.length) (D := dlOf ds) (R := ranAt ds ls ws i) hj
        rw [← ran_step hn] at ed2
        rw [ed2] at R8
        refine ⟨_, _, _, _, _, _, _, _, L7, g7, rfl, hL7.trans hLx, fun m hm hb => ?_, ?_⟩
        · rcases Nat.lt_succ_iff_lt_or_eq.mp hm with h | h
          · exact hno m h hb
          · subst h
            obtain ⟨n', hn', hs', hb'⟩ := hb
            rw [hn] at hn'; cases hn'
            exact hnb hs' hb'
        · have er : (ranAt ds ls ws (i + 1)).E = (ranAt ds ls ws i).E.does (j : Int) (nextStep (dlOf ds) (ranAt ds ls ws i) (j : Int)) := by rw [ran_step hn]; rfl
          rw [er]
          show Rep K cE ds.length _ _ (upd H7 D (.lst ((doneOf ds.length (ranAt ds ls ws i)).set j (.int (((ranAt ds ls ws i).done (j : Int) : Nat) + 1))))) L7 g7 _
          rw [ed2]
          exact R8.grow (by omega)
      · refine ⟨_, rfl, rfl, true, rfl, iteT ?_⟩
        refine ⟨_, rfl, t6, _, rfl, SqT.of ht6, rfl, _, _, rfl, _, _, rfl, rfl, ?_⟩
        refine ⟨_, rfl, _, rfl, _, rfl, _, rfl, Nat.le_of_ble_eq_true rfl, fun p hp => ⟨Nat.le_of_ble_eq_true rfl, fun t7 ht7 => ?_⟩⟩
        have Sp := same_new (o := .tup [.int (i : Nat), .str "chain", .int y6]) hp
        have S7 := same_new (o := .tup [.ref x, .ref p]) ht7
        exact k2 _ t7 p (.ref x) i y6 ⟨_, hn, hnx, hb6⟩ (((S5.trans S6).trans Sp).trans S7) upd_same (S7 _ _ upd_same)
    · rintro σ H4 ⟨o4, o5, o7, o8, o9, o10, o11, o12, L, g, rfl, hLx, hno, R⟩
      rw [List.length_map] at hno R
      refine ⟨_, rfl, Nat.le_of_ble_eq_true rfl, fun t ht => ?_⟩
      have R5 := R.mono (same_new (o := .tup [.ref x, .non]) ht)
      have R6 : Rep K cE ds.length (ds.length + 20 * ws.length) H _ L g (ranAt ds ls ws ws.length).E := { R5 with base := (same_new hD00).trans R5.base, new := fun s hs => none_of (same_new hD00) (R5.new s hs) }
      refine k1 _ t L g _ (fun i hb => ?_) R6 (by have := G.n60; have := G.few; omega) (by rw [hLx]; exact upd_same)
      obtain ⟨n, hn, _⟩ := id hb
      exact hno i (List.getElem?_eq_some_iff.mp hn).1 hb
end
end K60

set_option Elab.async false
set_option linter.all false
set_option maxRecDepth 100000
set_option maxHeartbeats 8000000
/-! K61C: barred; a run's beginning. -/
namespace K60
open PySem L2 PySem.Spec
section
variable {P : Program} {w : World} {K : PySem.W.Frag} {mg : Str → Option Value} {base : Heap} {cC cE cR : Addr}
theorem pt_never {X : Cx} {e : Expr} : PT X e (fun _ _ _ => False) := ⟨fun _ _ _ _ _ _ h => h.elim⟩
def spBarred (K : PySem.W.Frag) : Sp := fun vs H Q _ => ∃ (v u : V) (q : Addr) (ds : List Deal) (ls : List Lv) (ws : List Int), vs = [v, u, .ref q] ∧ DealsAt K H v ds ∧ DsOk ds ∧ LvsAt K H u ls ∧ ls.length = ds.length ∧ SqL K H q (ws.map V.int) ∧ IsWeave ds ws ∧ GoesW ds ls ws ∧
  (∀ H', (∀ i, ¬ BarAt ds ls ws i) → Same H H' → Q .non H') ∧
  ∀ H' p i y, BarAt ds ls ws i → Same H H' → H' p = some (.tup [.int (i : Nat), .str "chain", .int y]) → Q (.ref p) H'
theorem ok_barred {f : Addr} {fd : FuncData} (F : Fun K "barred" "barred" s_barred f fd) (T : Facts K mg cC cE cR) (c1 : C8.Cal P w K mg base 8 "look_at" (spLook K) []) (c2 : C8.Cal P w K mg base 6 "gone_through" (spGone K cE) []) :
    FnOk P w K mg base CX0 9 f fd ["dealings", "levels", "weaving"] (spBarred K) := by
  refine F.ok sc_barred (fun vs H Q E h => ?_) (fun cdv A outer s H vs Q E hr h => ?_)
  · obtain ⟨v, u, q, ds, ls, ws, rfl, _⟩ := h; rfl
  · obtain ⟨v, u, q, ds, ls, ws, rfl, hD, okD, hL, hl, hq, W, G, k1, k2⟩ := h
    refine ⟨_, pss_cons (ps_expr (C8.pe_c c1 hr (by decide) rfl (pa_cons (pv 0) (pa_cons (pv 1) (pa_cons (pv 2) pa_nil)))))
      (pss_one (ps_ret (pe_ix ix_tup (C8.pe_c c2 hr (by decide) rfl (pa_cons (pv 0) (pa_cons (pv 1) (pa_cons (pv 2) pa_nil)))) pe_int (fun _ _ => rfl)))), ?_⟩
    refine ⟨_, rfl, _, rfl, _, rfl, v, u, q, ds, ls, ws, rfl, hD, okD, hL, hl, hq, W, fun H1 S1 => ?_⟩
    refine ⟨_, rfl, _, rfl, _, rfl, v, u, q, ds, ls, ws, rfl, hD.mono S1, okD, hL.mono S1, hl, S1.seq hq, G, fun H' t L g B hno R hB ht => ?_, fun H' t p e i y hb S ht hp => ?_⟩
    · exact ⟨t, _, _, _, rfl, rfl, SqT.of ht, atI_nat (j := 1) rfl, k1 H' hno (S1.trans R.base)⟩
    · exact ⟨t, _, _, _, rfl, rfl, SqT.of ht, atI_nat (j := 1) rfl, k2 H' p i y hb (S1.trans S) hp⟩
theorem Rep.side2 {N B : Nat} {H1 H : Hp} {L : Slot → Addr} {g : Slot → HO} {E : Eng} {d : Addr} {o1 : HO} (R : Rep K cE N B H1 H L g E) (h1 : H1 d = some o1) (n1 : ∀ xs, o1 ≠ .tup xs) (n2 : ∀ z y, o1 ≠ .frz z y) (o : HO) : Rep K cE N B (upd H1 d o) (upd H d o) L g E := by
  have hd := R.base d _ h1
  have ne : ∀ s, Live N E s → L s ≠ d := fun s hs z => by
    have := R.new s hs
    rw [z, h1] at this; cases this
  exact { R with
    base := fun b u hb => by
      by_cases e : b = d
      · subst e; rw [upd_same] at hb ⊢; exact hb
      · rw [upd_ne e] at hb ⊢; exact R.base b u hb
    new := fun s hs => by rw [upd_ne (ne s hs)]; exact R.new s hs
    at_ := fun s hs => by rw [upd_ne (ne s hs)]; exact R.at_ s hs
    looks := R.lk (TupS.set hd n1 n2) }
theorem Rep.weaken {N B : Nat} {H0 H1 H : Hp} {L : Slot → Addr} {g : Slot → HO} {E : Eng} (R : Rep K cE N B H1 H L g E) (S : Same H0 H1) : Rep K cE N B H0 H L g E :=
  { R with base := S.trans R.base, new := fun s hs => none_of S (R.new s hs) }
def runFs (a b c e : Addr) : List (Str × V) := [("dealings", .ref a), ("levels", .ref b), ("weaving", .ref c), ("engine", .ref e)]
def spRunInit (K : PySem.W.Frag) (cE cR : Addr) : Sp := fun vs H Q _ => ∃ (H0 : Hp) (x dx : Addr) (v u : V) (q : Addr) (ds : List Deal) (ls : List Lv) (ws : List Int), vs = [.ref x, v, u, .ref q] ∧ H x = some (.ins cR dx []) ∧ Same H0 H ∧ H0 x = none ∧
  DealsAt K H0 v ds ∧ DsOk ds ∧ LvsAt K H0 u ls ∧ ls.length = ds.length ∧ SqL K H0 q (ws.map V.int) ∧ IsWeave ds ws ∧ GoesW ds ls ws ∧ (∀ i, ¬ BarAt ds ls ws i) ∧
  ∀ H' a b c L g B us, H' x = some (.ins cR dx (runFs a b c (L .obj))) → SqL K H' a us → us.length = ds.length → Rep K cE ds.length B H0 H' L g (ranAt ds ls ws ws.length).E → B ≤ 2200 → Q .non H'
theorem ok_Run_init {f : Addr} {fd : FuncData} (F : Fun K "__init__" "Run.__init__" sRun_init f fd) (T : Facts K mg cC cE cR) (c1 : C8.Cal P w K mg base 8 "look_at" (spLook K) []) (c2 : C8.Cal P w K mg base 6 "gone_through" (spGone K cE) []) :
    FnOk P w K mg base CX0 9 f fd ["self", "dealings", "levels", "weaving"] (spRunInit K cE cR) := by
  refine F.ok sc_Run_init (fun vs H Q E h => ?_) (fun cdv A outer s H vs Q E hr h => ?_)
  · obtain ⟨H0, x, dx, v, u, q, ds, ls, ws, rfl, _⟩ := h; rfl
  · obtain ⟨H0, x, dx, v, u, q, ds, ls, ws, rfl, hx, S0, hx0, hD, okD, hL, hl, hq, W, G, hno, k⟩ := h
    have nd := sc_Run_init.nd
    refine ⟨_, pss_cons (ps_expr (C8.pe_c c1 hr (by decide) rfl (pa_cons (pv 1) (pa_cons (pv 2) (pa_cons (pv 3) pa_nil)))))
      (pss_cons (ps_asg (C8.pe_c c2 hr (by decide) rfl (pa_cons (pv 1) (pa_cons (pv 2) (pa_cons (pv 3) pa_nil)))) (pg_tup (by rfl) (pgs_cons (pg_name (i := 4) nd rfl (Or.inl rfl)) (pgs_cons (pg_name (i := 5) nd rfl (Or.inl rfl)) pgs_nil))))
      (pss_cons (ps_if (pt_cmpR op_notN (pv 5) pe_non (nomark _)) (pss_cons ps_never (pss_one ps_never)) pss_nil)
      (pss_cons (ps_fld (pv 0) (pe_callTy call_list_of (by rfl) T.z_list (by decide +kernel) (pa_cons (pv 1) pa_nil)) rfl)
      (pss_cons (ps_fld (pv 0) (pe_callTy call_list_of (by rfl) T.z_list (by decide +kernel) (pa_cons (pv 2) pa_nil)) rfl)
      (pss_cons (ps_fld (pv 0) (pe_callTy call_list_of (by rfl) T.z_list (by decide +kernel) (pa_cons (pv 3) pa_nil)) rfl)
      (pss_one (ps_fld (pv 0) (pv 4) rfl))))))), ?_⟩
    refine ⟨_, rfl, _, rfl, _, rfl, v, u, q, ds, ls, ws, rfl, hD.mono S0, okD, hL.mono S0, hl, S0.seq hq, W, fun H1 S1 => ?_⟩
    have S01 := S0.trans S1
    refine ⟨_, rfl, _, rfl, _, rfl, v, u, q, ds, ls, ws, rfl, hD.mono S01, okD, hL.mono S01, hl, S01.seq hq, G, fun H2 t L g B _ R hB ht => ?_, fun H' t p e i y hb _ _ _ => absurd hb (hno i)⟩
    refine ⟨t, _, rfl, SqT.of ht, rfl, _, _, rfl, _, _, rfl, rfl, ?_⟩
    refine ⟨_, rfl, rfl, false, rfl, iteF ?_⟩
    have hx1 : H1 x = some (.ins cR dx []) := S1 _ _ hx
    have hx2 : H2 x = some (.ins cR dx []) := R.base _ _ hx1
    obtain ⟨pd, us, rfl, hpd, hus⟩ := id hD
    obtain ⟨pl, rfl, hpl⟩ := id hL
    have S02 := S01.trans R.base
    have stepS : ∀ {Ha : Hp} {i : HO}, Same H0 Ha → Same H0 (upd Ha x i) := fun S => same_upd S hx0
    -- dealings
    refine ⟨_, rfl, pd, us, rfl, .inl (S02.seq hpd), fun a ha => ?_⟩
    have Sa := same_new (o := .lst us) ha
    have nax : a ≠ x := fun z => by rw [z, hx2] at ha; cases ha
    refine ⟨_, rfl, x, cR, dx, _, rfl, Sa _ _ hx2, T.clRun, T.nRun_dealings, by decide, ?_⟩
    have R3 := (R.mono Sa).side2 hx1 (fun _ e => by cases e) (fun _ _ e => by cases e) (.ins cR dx [("dealings", .ref a)])
    have S3 : Same H0 (upd (upd H2 a (.lst us)) x (.ins cR dx [("dealings", .ref a)])) := stepS (S02.trans Sa)
    have a3 : (upd (upd H2 a (.lst us)) x (.ins cR dx [("dealings", .ref a)])) a = some (.lst us) := by rw [upd_ne nax, upd_same]
    have x3 : (upd (upd H2 a (.lst us)) x (.ins cR dx [("dealings", .ref a)])) x = some (.ins cR dx [("dealings", .ref a)]) := upd_same
    have e3 : (upd (upd H2 a (.lst us)) x (.ins cR dx (putF "dealings" (.ref a) []))) = (upd (upd H2 a (.lst us)) x (.ins cR dx [("dealings", .ref a)])) := rfl
    rw [e3]
    clear e3
    generalize (upd (upd H2 a (.lst us)) x (.ins cR dx [("dealings", .ref a)])) = H3 at R3 S3 a3 x3 ⊢
    -- levels
    refine ⟨_, rfl, pl, _, rfl, .inl (S3.seq hpl), fun b hb => ?_⟩
    have Sb := same_new (o := .lst (ls.map fun l => V.str (lvS l))) hb
    have nab : a ≠ b := fun z => by rw [← z, a3] at hb; cases hb
    refine ⟨_, rfl, x, cR, dx, _, rfl, Sb _ _ x3, T.clRun, T.nRun_levels, (by show 1 < 1000; decide), ?_⟩
    have R4 := (R3.mono Sb).side2 upd_same (fun _ e => by cases e) (fun _ _ e => by cases e) (.ins cR dx [("dealings", .ref a), ("levels", .ref b)])
    have S4 : Same H0 (upd (upd H3 b (.lst (ls.map fun l => V.str (lvS l)))) x (.ins cR dx [("dealings", .ref a), ("levels", .ref b)])) := stepS (S3.trans Sb)
    have a4 : (upd (upd H3 b (.lst (ls.map fun l => V.str (lvS l)))) x (.ins cR dx [("dealings", .ref a), ("levels", .ref b)])) a = some (.lst us) := by rw [upd_ne nax]; exact Sb _ _ a3
    have x4 : (upd (upd H3 b (.lst (ls.map fun l => V.str (lvS l)))) x (.ins cR dx [("dealings", .ref a), ("levels", .ref b)])) x = some (.ins cR dx [("dealings", .ref a), ("levels", .ref b)]) := upd_same
    have e4 : (upd (upd H3 b (.lst (ls.map fun l => V.str (lvS l)))) x (.ins cR dx (putF "levels" (.ref b) [("dealings", .ref a)]))) = (upd (upd H3 b (.lst (ls.map fun l => V.str (lvS l)))) x (.ins cR dx [("dealings", .ref a), ("levels", .ref b)])) := rfl
    rw [e4]
    clear e4
    generalize (upd (upd H3 b (.lst (ls.map fun l => V.str (lvS l)))) x (.ins cR dx [("dealings", .ref a), ("levels", .ref b)])) = H4 at R4 S4 a4 x4 ⊢
    -- weaving
    refine ⟨_, rfl, q, _, rfl, .inl (S4.seq hq), fun c hc => ?_⟩
    have Sc := same_new (o := .lst (ws.map V.int)) hc
    refine ⟨_, rfl, x, cR, dx, _, rfl, Sc _ _ x4, T.clRun, T.nRun_weaving, (by show 2 < 1000; decide), ?_⟩
    have R5 := (R4.mono Sc).side2 upd_same (fun _ e => by cases e) (fun _ _ e => by cases e) (.ins cR dx [("dealings", .ref a), ("levels", .ref b), ("weaving", .ref c)])
    have S5 : Same H0 (upd (upd H4 c (.lst (ws.map V.int))) x (.ins cR dx [("dealings", .ref a), ("levels", .ref b), ("weaving", .ref c)])) := stepS (S4.trans Sc)
    have a5 : (upd (upd H4 c (.lst (ws.map V.int))) x (.ins cR dx [("dealings", .ref a), ("levels", .ref b), ("weaving", .ref c)])) a = some (.lst us) := by rw [upd_ne nax]; exact Sc _ _ a4
    have x5 : (upd (upd H4 c (.lst (ws.map V.int))) x (.ins cR dx [("dealings", .ref a), ("levels", .ref b), ("weaving", .ref c)])) x = some (.ins cR dx [("dealings", .ref a), ("levels", .ref b), ("weaving", .ref c)]) := upd_same
    have e5 : (upd (upd H4 c (.lst (ws.map V.int))) x (.ins cR dx (putF "weaving" (.ref c) [("dealings", .ref a), ("levels", .ref b)]))) = (upd (upd H4 c (.lst (ws.map V.int))) x (.ins cR dx [("dealings", .ref a), ("levels", .ref b), ("weaving", .ref c)])) := rfl
    rw [e5]
    clear e5
    generalize (upd (upd H4 c (.lst (ws.map V.int))) x (.ins cR dx [("dealings", .ref a), ("levels", .ref b), ("weaving", .ref c)])) = H5 at R5 S5 a5 x5 ⊢
    -- engine
    refine ⟨_, rfl, _, rfl, x, cR, dx, _, rfl, x5, T.clRun, T.nRun_engine, (by show 3 < 1000; decide), ?_⟩
    have R6 := R5.side2 upd_same (fun _ e => by cases e) (fun _ _ e => by cases e) (.ins cR dx (runFs a b c (L .obj)))
    refine k (upd H5 x (.ins cR dx (runFs a b c (L .obj)))) a b c L g B us upd_same (SqL.of (by rw [upd_ne nax]; exact a5)) (paired_len hus) (R6.weaken ?_) hB
    intro z o hz
    have nz : z ≠ x := fun e => by rw [e, hx0] at hz; cases hz
    rw [upd_ne nz, upd_ne nz, upd_ne nz, upd_ne nz]
    exact S01 z o hz
end
end K60

set_option Elab.async false
set_option linter.all false
set_option maxRecDepth 100000
set_option maxHeartbeats 8000000
/-! K61D: the ties by a box. -/
namespace K60
open PySem L2 PySem.Spec
def rkR (rows : List Int) (x : Int) : Int := if x = -1 then -1 else (rows.idxOf x : Nat)
def tieStep (b : Int) (rows : List Int) (p : Int × Int) (x : Int) : List Tie := if x = p.1 then [] else if rkR rows x ≤ rkR rows p.2 then [(x, p.1, 1, b)] else [(p.1, x, 2, b)]
def overs (b : Int) (rows : List Int) (n : Nat) : List Tie := (List.range n).flatMap fun k => (rows.drop (k + 1)).map fun o => (rows.getD k 0, o, 0, b)
def tiesB (b : Int) (rows : List Int) (sg : List (Int × Int)) : List Tie := overs b rows rows.length ++ sg.flatMap fun p => rows.flatMap (tieStep b rows p)
theorem flat_le {α β : Type} (f : α → List β) (c : Nat) : ∀ l : List α, (∀ x ∈ l, (f x).length ≤ c) → (l.flatMap f).length ≤ l.length * c
  | [], _ => by simp
  | x :: l, h => by
    have := flat_le f c l fun y hy => h y (List.mem_cons_of_mem _ hy)
    have h1 := h x List.mem_cons_self
    rw [List.flatMap_cons, List.length_append, List.length_cons, Nat.add_mul]; omega
theorem cut_from (xs : List V) (n : Nat) : cutV xs (some ((n : Int) + 1)) none = xs.drop (n + 1) := by
  have e : (n : Int) + 1 = ((n + 1 : Nat) : Int) := by omega
  unfold cutV
  rw [HT.sIx_none, e, HT.sIx_nat]
  by_cases h : n + 1 ≤ xs.length
  · rw [Nat.min_eq_left h]
    exact List.take_of_length_le (by rw [List.length_drop]; exact Nat.le_refl _)
  · rw [Nat.min_eq_right (by omega), List.drop_of_length_le (Nat.le_refl _), List.drop_of_length_le (by omega), List.take_nil]
theorem overs_succ (b : Int) (rows : List Int) (i : Nat) {x : Int} (hx : rows[i]? = some x) : overs b rows (i + 1) = overs b rows i ++ (rows.drop (i + 1)).map fun o => ((x, o, 0, b) : Tie) := by
  unfold overs
  rw [List.range_succ, List.flatMap_append]
  simp only [List.flatMap_cons, List.flatMap_nil, List.append_nil]
  rw [List.getD_eq_getElem?_getD, hx]; rfl
theorem tieStep_len (b : Int) (rows : List Int) (p : Int × Int) (x : Int) : (tieStep b rows p x).length ≤ 1 := by
  unfold tieStep
  split
  · simp
  · split <;> simp
theorem overs_len (b : Int) (rows : List Int) (n : Nat) : (overs b rows n).length ≤ n * rows.length := by
  have := flat_le (fun k => (rows.drop (k + 1)).map fun o => ((rows.getD k 0, o, 0, b) : Tie)) rows.length (List.range n) fun k _ => by rw [List.length_map, List.length_drop]; omega
  rw [List.length_range] at this
  exact this
section
variable {P : Program} {w : World} {K : PySem.W.Frag} {mg : Str → Option Value} {base : Heap} {cC cE cR : Addr}
theorem sw_trueD {kx vx : Expr} {gs : List Comprehension} {scope : Scope} {pos py : Pos} {y : Str} {l : Nat} {env : Env} (hk : env.scope.kind = .function) (hy : env.scope.names.lookup y = some .local) (hl : (py.line == pos.line) = true)
    (ha : (scope.names.any fun (n, k) => n == y && (k == .local || k == .cell)) = false) : swapsWith (.DictComp kx vx gs scope pos) (some (.Name y py)) l env = pure true := by
  have e1 : env.kindOf y = some .local := hy
  have e2 : env.blockKind = .function := by unfold Env.blockKind; rw [hk]; rfl
  unfold swapsWith
  simp only [e2, e1, ha, Expr.pos, hl]
  rfl
/-- y = {k: v for ..}: the text's own statement -/
theorem ps_setDc {X : Cx} {i : Nat} {y : Str} {py : Pos} {kx vx tg iter : Expr} {ifs : List Expr} {scope : Scope} {own : List (Str × Nat)} {pos spos : Pos} {wi : TI} {g : TG} {tt : TT} {tk tv : TE} (hc : X.calm = true) (hN : X.N.Nodup) (hy : X.N[i]? = some y) (hyl : X.env.scope.names.lookup y = some .local)
    (hsw : swapsWith (.DictComp kx vx [⟨tg, iter, ifs, 0⟩] scope pos) (some (.Name y py)) spos.line X.env = pure true) (hi : PI X tg iter wi) (ok : BlkOk X.N X.env.scope scope own)
    (hg : ∀ (s : Shared) (H : Hp) (C : Addr) (cl : List (Str × Addr)) (fp : List Addr), PG (X.blk s H scope (compEnvC scope cl C X.env) fp) tg g) (ht : ∀ (s : Shared) (H : Hp) (C : Addr) (cl : List (Str × Addr)) (fp : List Addr), PTs (X.blk s H scope (compEnvC scope cl C X.env) fp) ifs tt)
    (hk : ∀ (s : Shared) (H : Hp) (C : Addr) (cl : List (Str × Addr)) (fp : List Addr), PE (X.blk s H scope (compEnvC scope cl C X.env) fp) kx tk)
    (he : ∀ (s : Shared) (H : Hp) (C : Addr) (cl : List (Str × Addr)) (fp : List Addr), PE (X.blk s H scope (compEnvC scope cl C X.env) fp) vx tv) (hs : ∀ x, foldedSetIterable iter X.env x = pure x := by intro _; rfl) :
    PS X (.Assign [.Name y py] (.DictComp kx vx [⟨tg, iter, ifs, 0⟩] scope pos) spos) (tAsg (tDc wi g tt tk tv (own.map (·.2))) (gName i)) := by
  refine ⟨fun pins s σ H D I h => ?_⟩
  rw [exec_Assign_Name_used _ _ _ _ hsw]
  refine wpAny_bind (wpAny_standAt (wpAny_bind ?_))
  show wpAny _ X.A (do let _ ← comprehension (.DictComp kx vx [⟨tg, iter, ifs, 0⟩] scope pos) scope X.env (firstIterPos [⟨tg, iter, ifs, 0⟩] pos) newDict false (eval iter X.env) (some (assign (.Name y py) X.env))) _ _ s
  have h0 : tDc wi g tt tk tv (own.map (·.2)) σ H (fun x H1 => gName i x σ H1 D.nx) := h
  refine wpAny_bind (thn (dc_core (Qf := fun _ s1 => SP X pins D .next s1) hc hN I hi ok hg ht hk he hs h0 fun R C s1 m H1 I1 q n1 fo => ?_) fun _ s1 q1 => wpAny_pure (wpAny_pure q1))
  show wpAny _ _ (assign (.Name y py) X.env (.ref R)) _ _ _
  refine wpAny_assign_Name (store_ok2 (v := V.ref R) I1 hN hy (.inl hyl) rfl (fun s2 I2 ⟨a, sb, ha⟩ => ?_) (.inr hyl))
  obtain ⟨f0, f1, f2, f3, f4, f5⟩ := fo
  have na : C ≠ a := by
    rcases ha with z | z
    · rw [z]; exact f1
    · exact fun e => f4 y a z e.symm
  exact ⟨m, n1.sameBut sb na, fun h3 sb3 => ⟨_, H1, I2.turned (t' := s2.toks) (fun b o hb e => (sb3.2 b hb).trans e) f0 f1 f3 f4 f5, q⟩⟩
theorem PairAt.mono {H H' : Hp} (e : Same H H') {v : V} {t : Int × Int} : PairAt K H v t → PairAt K H' v t := PairAt.tmono (TupS.of e)
def spBox2 (K : PySem.W.Frag) : Sp := fun vs H Q _ => ∃ (b : Int) (r q : Addr) (rows : List Int) (sg : List (Int × Int)) (us : List V), vs = [.int b, .ref r, .ref q] ∧ SqL K H r (rows.map V.int) ∧ SqL K H q us ∧ Paired (PairAt K H) us sg ∧
  rows.length ≤ 60 ∧ sg.length ≤ 100 ∧ rows.Nodup ∧ -1 ∉ rows ∧ (∀ p ∈ sg, p.2 = -1 ∨ p.2 ∈ rows) ∧
  ∀ (p : Addr) (H' : Hp) (acc : List V), Same H H' → H' p = some (.lst acc) → Paired (TieAt K H') acc (tiesB b rows sg) → Q (.ref p) H'
abbrev bNames : List Str := ["box", "rows", "sights", "found", "ranks", "k", "one", "reader", "whose", "writer", "number", "other"]
theorem ok_ties_of_box {f : Addr} {fd : FuncData} (F : Fun K "ties_of_box" "ties_of_box" s_ties_of_box f fd) (T : Facts K mg cC cE cR) : FnOk P w K mg base CX0 1 f fd ["box", "rows", "sights"] (spBox2 K) := by
  refine F.ok sc_ties_of_box (fun vs H Q E h => ?_) (fun cdv A outer s H vs Q E hr h => ?_)
  · obtain ⟨b, r, q, rows, sg, us, rfl, _⟩ := h; rfl
  · obtain ⟨b, r, q, rows, sg, us, rfl, hr0, hq, hus, l60, l100, ndr, no1, hsg, k⟩ := h
    have nd := sc_ties_of_box.nd
    have hu1 := u1_of hr
    refine ⟨_, pss_cons (ps_set (i := 3) nd rfl (Or.inl rfl) (pe_lst pa_nil))
      (pss_cons (ps_setDc (i := 4) (own := [("k", 5), ("number", 10)]) (g := gTup K 2 (gCons (gName 5) (gCons (gName 10) gNil))) (tt := tYes) (tk := tVar 10) (tv := tVar 5) rfl nd rfl rfl (sw_trueD rfl rfl rfl (by decide +kernel)) (pi_enum (by rfl) T.z_enumerate (pa_cons (pv 1) pa_nil)) (blkOk_by (own := [("k", 5), ("number", 10)]) (N := bNames) (sc := defScope s_ties_of_box) (by decide +kernel))
          (fun _ _ _ _ _ => pg_tup (by rfl) (pgs_cons (pg_name (i := 5) nd rfl (Or.inl rfl)) (pgs_cons (pg_name (i := 10) nd rfl (Or.inl rfl)) pgs_nil))) (fun _ _ _ _ _ => pts_nil) (fun _ _ _ _ _ => pv 10) (fun _ _ _ _ _ => pv 5))
      (pss_cons (ps_dput hu1 (pv 4) (C8.pe_gc rfl T.k_NOBODY) (pe_un un_neg pe_int) rfl)
      (pss_cons (ps_for PassesOwn.never rfl (pi_enum (by rfl) T.z_enumerate (pa_cons (pv 1) pa_nil)) (pg_tup rfl (pgs_cons (pg_name (i := 5) nd rfl (Or.inl rfl)) (pgs_cons (pg_name (i := 6) nd rfl (Or.inr rfl)) pgs_nil)))
        (pss_one (ps_expr (pe_bm PySem.F.plainAttrs_list PySem.F.slot_list_extend PySem.F.type_list_extend mt_extend (pv 3) (pa_cons
          (pe_lc (own := [("other", 11)]) (g := gName 11) (tt := tYes) (te := tTup (tCons (tVar 6) (tCons (tVar 11) (tCons (tC (.str "over")) (tCons (tVar 0) tNil))))) rfl nd (pi_list (pe_slice sl_list (pv 1) (po_some (pe_op op_add (pv 5) pe_int)) po_none)) (blkOk_by (own := [("other", 11)]) (N := bNames) (sc := defScope s_ties_of_box) (by decide +kernel))
            (fun _ _ _ _ _ => pg_name (i := 11) nd rfl (Or.inl rfl)) (fun _ _ _ _ _ => pts_nil) (fun _ _ _ _ _ => pe_tup (pa_cons (pv 6) (pa_cons (pv 11) (pa_cons pe_str (pa_cons (pv 0) pa_nil)))))) pa_nil)))))
      (pss_cons (ps_for PassesOwn.never rfl (pi_list (pv 2)) (pg_tup rfl (pgs_cons (pg_name (i := 7) nd rfl (Or.inl rfl)) (pgs_cons (pg_name (i := 8) nd rfl (Or.inl rfl)) pgs_nil)))
        (pss_one (ps_for PassesOwn.never rfl (pi_list (pv 1)) (pg_name (i := 9) nd rfl (Or.inl rfl))
          (pss_one (ps_if (PW.pt (pw_and (pt_cmpR op_ne (pv 9) (pv 7) (nomark _)) (pw_and1 (pt_cmpR op_le (pe_dget hu1 (pv 4) (pv 9) (fun _ _ => rfl)) (pe_dget hu1 (pv 4) (pv 8) (fun _ _ => rfl)) (nomark _)))))
            (pss_one (ps_expr (pe_bm PySem.F.plainAttrs_list PySem.F.slot_list_append PySem.F.type_list_append mt_append (pv 3) (pa_cons (pe_tup (pa_cons (pv 9) (pa_cons (pv 7) (pa_cons pe_str (pa_cons (pv 0) pa_nil))))) pa_nil))))
            (pss_one (ps_if (pt_cmpR op_ne (pv 9) (pv 7) (nomark _)) (pss_one (ps_expr (pe_bm PySem.F.plainAttrs_list PySem.F.slot_list_append PySem.F.type_list_append mt_append (pv 3) (pa_cons (pe_tup (pa_cons (pv 7) (pa_cons (pv 9) (pa_cons pe_str (pa_cons (pv 0) pa_nil))))) pa_nil)))) pss_nil)))))))
      (pss_one (ps_ret (pv 3))))))), ?_⟩
    have big : (20000 : Nat) < sizeLine := by decide
    refine ⟨Nat.zero_le _, fun f0 hf0 => ?_⟩
    have Sf := same_new (o := .lst []) hf0
    have hr1 := Sf.seq hr0
    -- ranks
    refine ⟨_, rfl, r, _, rfl, hr1, fun D hD => ⟨fun i m H' => m = (rows.map V.int).length - i ∧ i ≤ (rows.map V.int).length ∧ Same (upd H f0 (.lst [])) H' ∧ ∃ kv, H' D = some (.dK kv) ∧ kv.length ≤ i ∧ ∀ x, x ∈ rows.take i → valV kv (.inl x) = some (.int (rows.idxOf x : Nat)), ⟨_, rfl, Nat.zero_le _, same_new hD, [], upd_same, Nat.zero_le _, by simp⟩, ?_⟩⟩
    rintro i m H2 ⟨rfl, hi, S2, kv, hkv, lkv, vkv⟩
    have hr2 := S2.seq hr1
    by_cases hlt : i < (rows.map V.int).length
    · refine .inr ⟨walk_enum.goes i H2 hlt hr2, fun H' => i + 1 ≤ (rows.map V.int).length ∧ Same (upd H f0 (.lst [])) H' ∧ ∃ kv, H' D = some (.dK kv) ∧ kv.length ≤ i + 1 ∧ ∀ x, x ∈ rows.take (i + 1) → valV kv (.inl x) = some (.int (rows.idxOf x : Nat)), fun H' q => ⟨_, (by omega : (rows.map V.int).length - (i + 1) < (rows.map V.int).length - i), rfl, q⟩, fun v H' y => ?_⟩
      obtain ⟨t, x0, y0, rfl, ht, rfl, hx0, hy0⟩ := walk_enum.yields i H2 v H' hlt hr2 y
      cases hx0
      obtain ⟨x, hx, rfl⟩ := ints_get hy0
      have St := same_new (o := .tup [.int (i : Nat), .int x]) ht
      have e1 : rows.take (i + 1) = rows.take i ++ [x] := by rw [List.take_add_one, hx]; rfl
      have hix : rows.idxOf x = i := by
        obtain ⟨h1, h2⟩ := List.getElem?_eq_some_iff.mp hx
        have hm := List.mem_of_getElem? hx
        have h3 : rows.idxOf x < rows.length := List.idxOf_lt_length_iff.mpr hm
        exact (List.getElem?_inj (i := rows.idxOf x) (j := i) h3 ndr).mp (by rw [hx, List.getElem?_eq_getElem h3, List.getElem_idxOf h3])
      refine ⟨t, _, rfl, SqT.of upd_same, rfl, _, _, rfl, _, _, rfl, rfl, rfl, yesT ?_⟩
      refine ⟨_, rfl, _, rfl, kv, .inl x, rfl, St _ _ hkv, by rw [List.length_map] at hi; omega, hlt, same_upd (S2.trans St) hD, _, upd_same, put_len _ _ _ lkv, fun z hz => ?_⟩
      rw [valV_put]
      by_cases e : z = x
      · subst e; rw [if_pos rfl, hix]
      · rw [if_neg (fun c => e (by injection c))]
        rw [e1] at hz
        rcases List.mem_append.mp hz with hz | hz
        · exact vkv z hz
        · exact absurd (List.mem_singleton.mp hz) e
    have ei : i = (rows.map V.int).length := by omega
    subst ei
    refine .inl ⟨walk_enum.stops H2 hr2, ?_⟩
    rw [List.length_map, List.take_length] at vkv
    -- NOBODY
    have rk : ∀ x, x = -1 ∨ x ∈ rows → valV (putK kv (.inl (-1)) (.int (-1))) (.inl x) = some (.int (rkR rows x)) := fun x hx => by
      rw [valV_put]
      unfold rkR
      by_cases e : x = -1
      · subst e; rw [if_pos rfl, if_pos rfl]
      · rw [if_neg (fun c => e (by injection c)), if_neg e]
        exact vkv x (hx.resolve_left e)
    refine ⟨_, rfl, _, rfl, D, _, rfl, DPut.k (k := .inl (-1)) hkv (by rw [List.length_map] at lkv; omega), ?_⟩
    have S3 : Same (upd H f0 (.lst [])) (upd H2 D (.dK (putK kv (.inl (-1)) (.int (-1))))) := same_upd S2 hD
    have hD3 : (upd H2 D (.dK (putK kv (.inl (-1)) (.int (-1))))) D = some (.dK (putK kv (.inl (-1)) (.int (-1)))) := upd_same
    have hf3 : (upd H2 D (.dK (putK kv (.inl (-1)) (.int (-1))))) f0 = some (.lst []) := S3 _ _ upd_same
    have Sh3 : Same H (upd H2 D (.dK (putK kv (.inl (-1)) (.int (-1))))) := Sf.trans S3
    generalize upd H2 D (.dK (putK kv (.inl (-1)) (.int (-1)))) = H3 at S3 hD3 hf3 Sh3
    generalize putK kv (.inl (-1)) (.int (-1)) = kr at rk hD3
    have nfD : f0 ≠ D := fun z => by rw [z, hD3] at hf3; cases hf3
    have hf00 : H f0 = none := hf0
    have hr3 := Sh3.seq hr0
    have ol := overs_len b rows rows.length
    have ol2 : rows.length * rows.length ≤ 60 * 60 := Nat.mul_le_mul l60 l60
    -- over
    refine ⟨_, rfl, r, _, rfl, hr3, for_enum (K := K) (a := r) (xs := rows.map V.int) (fun i σ H' => ∃ o5 o6, σ = [some (.int b), some (.ref r), some (.ref q), some (.ref f0), some (.ref D), o5, o6, none, none, none, none, none] ∧ Same H H' ∧ H' D = some (.dK kr) ∧ ∃ acc, H' f0 = some (.lst acc) ∧ Paired (TieAt K H') acc (overs b rows i))
      ⟨none, none, rfl, Sh3, hD3, [], hf3, .nil⟩ (fun i σ H' _ ⟨_, _, _, S, _⟩ => S.seq hr0) ?_ ?_⟩
    · rintro i y σ H4 t hy ⟨o5, o6, rfl, S4, hD4, acc, hf4, hacc⟩ ht
      obtain ⟨x, hx, rfl⟩ := ints_get hy
      have hi := (List.getElem?_eq_some_iff.mp hx).1
      have St := same_new (o := .tup [.int (i : Nat), .int x]) ht
      refine ⟨t, _, rfl, SqT.of upd_same, rfl, _, _, rfl, _, _, rfl, rfl, ?_⟩
      refine ⟨_, rfl, .inl ⟨rfl, _, SqL.of (St _ _ hf4)⟩, _, rfl, _, rfl, _, _, rfl, rfl, (i : Int) + 1, rfl, r, _, rfl, (S4.trans St).seq hr0, fun e he => ?_⟩
      have Se := same_new (o := .lst (cutV (rows.map V.int) (some ((i : Int) + 1)) none)) he
      have e1 : cutV (rows.map V.int) (some ((i : Int) + 1)) none = (rows.drop (i + 1)).map V.int := by rw [cut_from, List.map_drop]
      have heE : (upd (upd H4 t (.tup [.int (i : Nat), .int x])) e (.lst (cutV (rows.map V.int) (some ((i : Int) + 1)) none))) e = some (.lst ((rows.drop (i + 1)).map V.int)) := by rw [upd_same, e1]
      have S5 := (S4.trans St).trans Se
      have hf5 := Se _ _ (St _ _ hf4)
      have hD5 := Se _ _ (St _ _ hD4)
      have St4 : Same H4 (upd (upd H4 t (.tup [.int (i : Nat), .int x])) e (.lst (cutV (rows.map V.int) (some ((i : Int) + 1)) none))) := St.trans Se
      generalize (upd (upd H4 t (.tup [.int (i : Nat), .int x])) e (.lst (cutV (rows.map V.int) (some ((i : Int) + 1)) none))) = H5 at heE S5 hf5 hD5 St4 ⊢
      have dl : (rows.drop (i + 1)).length ≤ 60 := by rw [List.length_drop]; omega
      refine ⟨e, rfl, ⟨_, SqL.of heE⟩, fun D2 hD2 => lc_list (K := K) (a := e) (xs := (rows.drop (i + 1)).map V.int) (fun j H' => Same H5 H' ∧ ∃ ac2, H' D2 = some (.lst ac2) ∧ Paired (TieAt K H') ac2 (((rows.drop (i + 1)).take j).map fun o => ((x, o, 0, b) : Tie))) ⟨same_new hD2, [], upd_same, by simp; exact .nil⟩ (fun j H' _ ⟨S, _⟩ => S.seq (SqL.of heE)) ?_ ?_⟩
      · rintro j z H6 hz ⟨S6, ac2, h6, hac2⟩
        obtain ⟨o, ho, rfl⟩ := ints_get hz
        have hj := (List.getElem?_eq_some_iff.mp ho).1
        have hal := paired_len hac2
        rw [List.length_map, List.length_take] at hal
        refine ⟨rfl, yesT ⟨_, rfl, _, rfl, _, rfl, Nat.le_of_ble_eq_true rfl, fun u hu => ?_⟩⟩
        have Su := same_new (o := .tup [.int x, .int o, .str "over", .int b]) hu
        have h6u := Su _ _ h6
        have w := TupS.lst (u := .lst (ac2 ++ [.ref u])) h6u
        refine ⟨ac2, h6u, small1000 (by omega), same_upd (S6.trans Su) hD2, _, upd_same, ?_⟩
        rw [List.take_add_one, ho, List.map_append]
        exact paired_snoc (Paired.mapP hac2 fun _ _ => TieAt.tmono ((TupS.of Su).trans w)) ⟨u, rfl, w.tup (SqT.of upd_same)⟩
      · rintro H6 ⟨S6, ac2, h6, hac2⟩
        rw [List.length_map, List.take_length] at hac2
        have hf6 := S6 _ _ hf5
        have hal := paired_len hac2
        have hol := paired_len hacc
        have o1 := overs_len b rows i
        have o2 : i * rows.length ≤ 60 * 60 := Nat.mul_le_mul (by omega) l60
        rw [List.length_map] at hal
        refine ⟨f0, D2, _, _, rfl, rfl, hf6, h6, by omega, ?_⟩
        have w := TupS.lst (u := .lst (acc ++ ac2)) hf6
        refine ⟨_, _, rfl, same_upd (S5.trans S6) hf00, by rw [upd_ne nfD.symm]; exact S6 _ _ hD5, _, upd_same, ?_⟩
        rw [overs_succ b rows i hx]
        exact paired_append (Paired.mapP hacc fun _ _ => TieAt.tmono ((TupS.of (St4.trans S6)).trans w)) (Paired.mapP hac2 fun _ _ => TieAt.tmono w)
    rintro σ H4 ⟨o5, o6, rfl, S4, hD4, acc, hf4, hacc⟩
    rw [List.length_map] at hacc
    -- sights
    have sl : ∀ (sg' : List (Int × Int)), (sg'.flatMap fun p => rows.flatMap (tieStep b rows p)).length ≤ sg'.length * 60 := fun sg' => flat_le _ 60 sg' fun p _ => by
      have := flat_le (tieStep b rows p) 1 rows fun x _ => tieStep_len b rows p x
      omega
    refine ⟨_, rfl, q, rfl, ⟨_, S4.seq hq⟩, for_list (K := K) (a := q) (xs := us) (fun i σ H' => ∃ o7 o8 o9, σ = [some (.int b), some (.ref r), some (.ref q), some (.ref f0), some (.ref D), o5, o6, o7, o8, o9, none, none] ∧ Same H H' ∧ H' D = some (.dK kr) ∧ ∃ acc, H' f0 = some (.lst acc) ∧ Paired (TieAt K H') acc (overs b rows rows.length ++ (sg.take i).flatMap fun p => rows.flatMap (tieStep b rows p)))
      ⟨none, none, none, rfl, S4, hD4, acc, hf4, by simpa using hacc⟩ (fun i σ H' _ ⟨_, _, _, _, S, _⟩ => S.seq hq) ?_ ?_⟩
    · rintro i y σ H5 hy ⟨o7, o8, o9, rfl, S5, hD5, ac5, hf5, hac5⟩
      obtain ⟨pr, hpr, u, rfl, hu⟩ := paired_get hus hy
      have hi := (List.getElem?_eq_some_iff.mp hpr).1
      have e1 : sg.take (i + 1) = sg.take i ++ [pr] := by rw [List.take_add_one, hpr]; rfl
      have hprm := hsg pr (List.mem_of_getElem? hpr)
      refine ⟨u, _, rfl, same_tup S5 hu, rfl, _, _, rfl, _, _, rfl, rfl, ?_⟩
      refine ⟨_, rfl, r, rfl, ⟨_, S5.seq hr0⟩, for_list (K := K) (a := r) (xs := rows.map V.int) (fun j σ H' => ∃ o9, σ = [some (.int b), some (.ref r), some (.ref q), some (.ref f0), some (.ref D), o5, o6, some (.int pr.1), some (.int pr.2), o9, none, none] ∧ Same H H' ∧ H' D = some (.dK kr) ∧ ∃ acc, H' f0 = some (.lst acc) ∧
          Paired (TieAt K H') acc (overs b rows rows.length ++ (sg.take i).flatMap (fun p => rows.flatMap (tieStep b rows p)) ++ (rows.take j).flatMap (tieStep b rows pr)))
        ⟨o9, rfl, S5, hD5, ac5, hf5, by simpa using hac5⟩ (fun i σ H' _ ⟨_, _, S, _⟩ => S.seq hr0) ?_ ?_⟩
      · rintro j z σ H6 hz ⟨o9', rfl, S6, hD6, ac6, hf6, hac6⟩
        obtain ⟨x, hx, rfl⟩ := ints_get hz
        have hj := (List.getElem?_eq_some_iff.mp hx).1
        have e2 : rows.take (j + 1) = rows.take j ++ [x] := by rw [List.take_add_one, hx]; rfl
        have hal := paired_len hac6
        rw [List.length_append, List.length_append] at hal
        have a1 := sl (sg.take i)
        have a2 := flat_le (tieStep b rows pr) 1 (rows.take j) fun x _ => tieStep_len b rows pr x
        rw [List.length_take] at a1 a2
        have stp : (rows.take (j + 1)).flatMap (tieStep b rows pr) = (rows.take j).flatMap (tieStep b rows pr) ++ tieStep b rows pr x := by rw [e2, List.flatMap_append]; simp
        have d1 := DGet.k (k := .inl x) hD6
        rw [rk x (.inr (List.mem_of_getElem? hx))] at d1
        have d2 := DGet.k (k := .inl pr.2) hD6
        rw [rk pr.2 hprm] at d2
        refine ⟨_, rfl, _, rfl, rfl, !decide (x = pr.1), congrArg V.bl (by simp), ?_⟩
        by_cases c : x = pr.1
        · have e3 : tieStep b rows pr x = [] := by unfold tieStep; rw [if_pos c]
          rw [decide_eq_true c]
          refine iteF (iteF ⟨_, rfl, _, rfl, rfl, false, congrArg V.bl (by simp [c]), iteF ?_⟩)
          exact ⟨_, rfl, S6, hD6, ac6, hf6, by rw [stp, e3, List.append_nil]; exact hac6⟩
        rw [decide_eq_false c]
        refine iteT ⟨_, rfl, _, rfl, D, _, rfl, d1, _, rfl, _, rfl, D, _, rfl, d2, _, _, rfl, rfl, decide (rkR rows x ≤ rkR rows pr.2), rfl, ?_⟩
        by_cases c2 : rkR rows x ≤ rkR rows pr.2
        · have e3 : tieStep b rows pr x = [(x, pr.1, 1, b)] := by unfold tieStep; rw [if_neg c, if_pos c2]
          rw [decide_eq_true c2]
          refine iteT ⟨_, rfl, .inl ⟨rfl, _, SqL.of hf6⟩, _, rfl, _, rfl, _, rfl, Nat.le_of_ble_eq_true rfl, fun u2 hu2 => ?_⟩
          have Su := same_new (o := .tup [.int x, .int pr.1, .str "from", .int b]) hu2
          have hfu := Su _ _ hf6
          have w := TupS.lst (u := .lst (ac6 ++ [.ref u2])) hfu
          refine ⟨f0, _, _, rfl, rfl, hfu, by omega, ?_⟩
          refine ⟨_, rfl, same_upd (S6.trans Su) hf00, by rw [upd_ne nfD.symm]; exact Su _ _ hD6, _, upd_same, ?_⟩
          rw [stp, e3, ← List.append_assoc]
          exact paired_snoc (Paired.mapP hac6 fun _ _ => TieAt.tmono ((TupS.of Su).trans w)) ⟨u2, rfl, w.tup (SqT.of upd_same)⟩
        · have e3 : tieStep b rows pr x = [(pr.1, x, 2, b)] := by unfold tieStep; rw [if_neg c, if_neg c2]
          rw [decide_eq_false c2]
          refine iteF ⟨_, rfl, _, rfl, rfl, true, congrArg V.bl (by simp [c]), iteT ?_⟩
          refine ⟨_, rfl, .inl ⟨rfl, _, SqL.of hf6⟩, _, rfl, _, rfl, _, rfl, Nat.le_of_ble_eq_true rfl, fun u2 hu2 => ?_⟩
          have Su := same_new (o := .tup [.int pr.1, .int x, .str "past", .int b]) hu2
          have hfu := Su _ _ hf6
          have w := TupS.lst (u := .lst (ac6 ++ [.ref u2])) hfu
          refine ⟨f0, _, _, rfl, rfl, hfu, by omega, ?_⟩
          refine ⟨_, rfl, same_upd (S6.trans Su) hf00, by rw [upd_ne nfD.symm]; exact Su _ _ hD6, _, upd_same, ?_⟩
          rw [stp, e3, ← List.append_assoc]
          exact paired_snoc (Paired.mapP hac6 fun _ _ => TieAt.tmono ((TupS.of Su).trans w)) ⟨u2, rfl, w.tup (SqT.of upd_same)⟩
      · rintro σ H6 ⟨o9', rfl, S6, hD6, ac6, hf6, hac6⟩
        rw [List.length_map, List.take_length] at hac6
        refine ⟨_, _, _, rfl, S6, hD6, ac6, hf6, ?_⟩
        rw [e1, List.flatMap_append, ← List.append_assoc]
        simpa using hac6
    · rintro σ H5 ⟨o7, o8, o9, rfl, S5, hD5, ac5, hf5, hac5⟩
      rw [paired_len hus, List.take_length] at hac5
      exact ⟨_, rfl, k f0 H5 ac5 S5 hf5 hac5⟩
end
end K60

set_option Elab.async false
set_option linter.all false
set_option maxRecDepth 100000
set_option maxHeartbeats 8000000
/-! K61E: dicts of cells of their own; all ties. -/
namespace K60
open PySem L2 PySem.Spec
/-- a dict at d whose values are cells of its own -/
structure DC (H0 H : Hp) (d : Addr) (B : Nat) (A : Int → Addr) (g : Int → Option HO) : Prop where
  base : Same H0 H
  d0 : H0 d = none
  new : ∀ b, g b ≠ none → H0 (A b) = none
  dic : ∃ kv, H d = some (.dK kv) ∧ kv.length ≤ B ∧ ∀ b, valV kv (.inl b) = (g b).map fun _ => V.ref (A b)
  at_ : ∀ b o, g b = some o → H (A b) = some o
  inj : ∀ b c, g b ≠ none → g c ≠ none → A b = A c → b = c
  ne : ∀ b, g b ≠ none → A b ≠ d
section
variable {H0 H : Hp} {d : Addr} {B : Nat} {A : Int → Addr} {g : Int → Option HO}
theorem DC.mono {H' : Hp} (D : DC H0 H d B A g) (S : Same H H') : DC H0 H' d B A g :=
  { D with base := D.base.trans S, dic := let ⟨kv, a, b⟩ := D.dic; ⟨kv, S _ _ a, b⟩, at_ := fun b o h => S _ _ (D.at_ b o h) }
theorem DC.init {d : Addr} (S : Same H0 H) (hd : H d = none) : DC H0 (upd H d (.dK [])) d 0 (fun _ => d) (fun _ => none) :=
  ⟨S.trans (same_new hd), none_of S hd, fun _ h => absurd rfl h, ⟨[], upd_same, Nat.le_refl _, fun _ => rfl⟩, fun _ _ h => by (cases h), fun _ _ h => absurd rfl h, fun _ h => absurd rfl h⟩
theorem DC.wr {b : Int} {o1 : HO} (D : DC H0 H d B A g) (hb : g b = some o1) (o2 : HO) : DC H0 (upd H (A b) o2) d B A (setf g b (some o2)) := by
  have hb' : g b ≠ none := by rw [hb]; simp
  have lv : ∀ c, setf g b (some o2) c ≠ none → g c ≠ none := fun c hc => by
    by_cases e : c = b
    · rw [e]; exact hb'
    · rw [setf_ne _ _ e] at hc; exact hc
  refine ⟨same_upd D.base (D.new b hb'), D.d0, fun c hc => D.new c (lv c hc), ?_, ?_, fun c e hc he => D.inj c e (lv c hc) (lv e he), fun c hc => D.ne c (lv c hc)⟩
  · obtain ⟨kv, h1, h2, h3⟩ := D.dic
    refine ⟨kv, by rw [upd_ne (D.ne b hb').symm]; exact h1, h2, fun c => ?_⟩
    rw [h3]
    by_cases e : c = b
    · subst e; rw [hb, setf_same]; rfl
    · rw [setf_ne _ _ e]
  · intro c o hc
    by_cases e : c = b
    · subst e; rw [setf_same] at hc; cases hc; exact upd_same
    · rw [setf_ne _ _ e] at hc
      rw [upd_ne (fun z => e (D.inj c b (by rw [hc]; simp) hb' z))]
      exact D.at_ c o hc
/-- d.setdefault(b, o0), o0 just laid at p -/
theorem DC.setd {p : Addr} {o0 : HO} (b : Int) (D : DC H0 H d B A g) (hp : H p = none) :
    ∃ kv, (upd H p o0) d = some (.dK kv) ∧ kv.length ≤ B ∧ ∀ C : V → Hp → Prop, (∀ H' A' g', DC H0 H' d (B + 1) A' g' → (∀ c, g' c = if c = b then some ((g b).getD o0) else g c) → TupS H H' → C (.ref (A' b)) H') →
      (∀ v, valV kv (.inl b) = some v → C v (upd H p o0)) ∧ (valV kv (.inl b) = none → C (.ref p) (upd (upd H p o0) d (.dK (putK kv (.inl b) (.ref p))))) := by
  obtain ⟨kv, h1, h2, h3⟩ := D.dic
  have Sp := same_new (o := o0) hp
  have D1 := D.mono Sp
  refine ⟨kv, Sp _ _ h1, h2, fun C hC => ⟨fun v hv => ?_, fun hv => ?_⟩⟩
  · rw [h3] at hv
    cases e : g b with
    | none => rw [e] at hv; cases hv
    | some o =>
      rw [e] at hv; cases hv
      refine hC _ A g { D1 with dic := ⟨kv, Sp _ _ h1, by omega, h3⟩ } (fun c => ?_) (TupS.of Sp)
      by_cases ec : c = b
      · subst ec; rw [if_pos rfl, e]; rfl
      · rw [if_neg ec]
  · rw [h3] at hv
    have hb : g b = none := by cases e : g b with | none => rfl | some o => rw [e] at hv; cases hv
    have np : ∀ c, g c ≠ none → A c ≠ p := fun c hc z => by
      obtain ⟨o, ho⟩ := Option.ne_none_iff_exists'.mp hc
      have := D.at_ c o ho
      rw [z, hp] at this; cases this
    have ndp : d ≠ p := fun z => by rw [z, hp] at h1; cases h1
    have hdp := Sp _ _ h1
    have key := hC (upd (upd H p o0) d (.dK (putK kv (.inl b) (.ref p)))) (setf A b p) (setf g b (some o0)) ?_ (fun c => ?_) ((TupS.of Sp).trans (TupS.dK hdp))
    · rw [setf_same] at key; exact key
    · have lv : ∀ c, c ≠ b → setf g b (some o0) c ≠ none → g c ≠ none := fun c e hc => by rw [setf_ne _ _ e] at hc; exact hc
      refine ⟨same_upd D1.base D.d0, D.d0, fun c hc => ?_, ⟨_, upd_same, put_len _ _ _ h2, fun c => ?_⟩, fun c o hc => ?_, fun c e hc he hce => ?_, fun c hc => ?_⟩
      · by_cases e : c = b
        · rw [e, setf_same]; exact none_of D.base hp
        · rw [setf_ne _ _ e]; exact D.new c (lv c e hc)
      · rw [valV_put]
        by_cases e : c = b
        · subst e; rw [if_pos rfl, setf_same, setf_same]; rfl
        · rw [if_neg (fun z => e (by injection z)), setf_ne _ _ e, setf_ne _ _ e]; exact h3 c
      · by_cases e : c = b
        · subst e; rw [setf_same] at hc; cases hc
          rw [setf_same, upd_ne ndp.symm, upd_same]
        · rw [setf_ne _ _ e] at hc
          have hg : g c ≠ none := by rw [hc]; simp
          rw [setf_ne _ _ e, upd_ne (D.ne c hg), upd_ne (np c hg)]
          exact D.at_ c o hc
      · by_cases e1 : c = b
        · by_cases e2 : e = b
          · rw [e1, e2]
          · rw [e1, setf_same, setf_ne _ _ e2] at hce
            exact absurd hce.symm (np e (lv e e2 he))
        · by_cases e2 : e = b
          · rw [e2, setf_same, setf_ne _ _ e1] at hce
            exact absurd hce (np c (lv c e1 hc))
          · rw [setf_ne _ _ e1, setf_ne _ _ e2] at hce
            exact D.inj c e (lv c e1 hc) (lv e e2 he) hce
      · by_cases e : c = b
        · rw [e, setf_same]; exact ndp.symm
        · rw [setf_ne _ _ e]; exact D.ne c (lv c e hc)
    · by_cases e : c = b
      · subst e; rw [setf_same, if_pos rfl, hb]; rfl
      · rw [setf_ne _ _ e, if_neg e]
theorem DC.setd2 {p : Addr} {o0 : HO} (b : Int) (D : DC H0 H d B A g) (hp : H p = none) :
    ∃ kv, (upd H p o0) d = some (.dK kv) ∧ kv.length ≤ B ∧
      (∀ v, valV kv (.inl b) = some v → ∃ A' g', v = .ref (A' b) ∧ DC H0 (upd H p o0) d (B + 1) A' g' ∧ (∀ c, g' c = if c = b then some ((g b).getD o0) else g c) ∧ TupS H (upd H p o0)) ∧
      (valV kv (.inl b) = none → ∃ A' g', V.ref p = .ref (A' b) ∧ DC H0 (upd (upd H p o0) d (.dK (putK kv (.inl b) (.ref p)))) d (B + 1) A' g' ∧ (∀ c, g' c = if c = b then some ((g b).getD o0) else g c) ∧ TupS H (upd (upd H p o0) d (.dK (putK kv (.inl b) (.ref p))))) := by
  obtain ⟨kv, h1, h2, h3⟩ := D.setd (o0 := o0) b hp
  exact ⟨kv, h1, h2, h3 (fun v H' => ∃ A' g', v = .ref (A' b) ∧ DC H0 H' d (B + 1) A' g' ∧ (∀ c, g' c = if c = b then some ((g b).getD o0) else g c) ∧ TupS H H') fun H' A' g' a b c => ⟨A', g', rfl, a, b, c⟩⟩
theorem DC.isD (D : DC H0 H d B A g) : IsD H d := by
  obtain ⟨kv, h1, _⟩ := D.dic
  exact .inl ⟨kv, .inl h1⟩
theorem DC.get (D : DC H0 H d B A g) (b : Int) : DGet H d (.int b) ((g b).map fun _ => V.ref (A b)) := by
  obtain ⟨kv, h1, _, h3⟩ := D.dic
  have := DGet.k (k := .inl b) h1
  rwa [h3] at this
end
def sgOf (lk : List (Int × Int × Int)) (b : Int) : List (Int × Int) := (lk.filter fun t => decide (t.2.1 = b)).map fun t => (t.1, t.2.2)
theorem sgOf_snoc (lk : List (Int × Int × Int)) (t : Int × Int × Int) (b : Int) : sgOf (lk ++ [t]) b = sgOf lk b ++ if b = t.2.1 then [(t.1, t.2.2)] else [] := by
  unfold sgOf
  rw [List.filter_append, List.map_append]
  congr 1
  by_cases e : t.2.1 = b
  · rw [List.filter_cons_of_pos (by simp [e]), if_pos e.symm]; rfl
  · rw [List.filter_cons_of_neg (by simp [e]), if_neg (fun z => e z.symm)]; rfl
theorem paired_zs {α β : Type} {F : α → β → Prop} : ∀ zs : List (α × β), (∀ z ∈ zs, F z.1 z.2) → Paired F (zs.map (·.1)) (zs.map (·.2))
  | [], _ => .nil
  | z :: zs, h => .cons (h z List.mem_cons_self) (paired_zs zs fun y hy => h y (List.mem_cons_of_mem _ hy))
theorem zip_snd {α β : Type} : ∀ {l : List α} {m : List β}, l.length = m.length → (l.zip m).map (·.2) = m
  | [], [], _ => rfl
  | [], _ :: _, h => by simp at h
  | _ :: _, [], h => by simp at h
  | _ :: l, _ :: m, h => by rw [List.zip_cons_cons, List.map_cons, zip_snd (l := l) (m := m) (by simpa using h)]
structure TiesF (E : Eng) : Prop where
  rows : ∀ b rows, E.chain b = some rows → rows.length ≤ 60 ∧ rows.Nodup ∧ -1 ∉ rows
  few : E.looks.length ≤ 100
  seen : ∀ t ∈ E.looks, t.2.2 = -1 ∨ t.2.2 ∈ E.rows t.2.1
  box : ∀ b, E.chain b ≠ none → 0 ≤ b ∧ b < 60
def IsTie (E : Eng) (t : Tie) : Prop := ∃ b rows, E.chain b = some rows ∧ t ∈ tiesB b rows (sgOf E.looks b)
section
variable {P : Program} {w : World} {K : PySem.W.Frag} {mg : Str → Option Value} {base : Heap} {cC cE cR : Addr}
def spTiesOf (K : PySem.W.Frag) (cE : Addr) : Sp := fun vs H Q _ => ∃ (N B : Nat) (H0 : Hp) (L : Slot → Addr) (g : Slot → HO) (E : Eng), vs = [.ref (L .obj)] ∧ Rep K cE N B H0 H L g E ∧ B ≤ 2200 ∧ TiesF E ∧
  ∀ p H' acc ts, Same H H' → H' p = some (.lst acc) → Paired (TieAt K H') acc ts → (∀ t, t ∈ ts ↔ IsTie E t) → ts.length ≤ 600000 → Q (.ref p) H'
theorem ok_ties_of {f : Addr} {fd : FuncData} (F : Fun K "ties_of" "ties_of" s_ties_of f fd) (T : Facts K mg cC cE cR) (c1 : C8.Cal P w K mg base 1 "ties_of_box" (spBox2 K) []) : FnOk P w K mg base CX0 2 f fd ["engine"] (spTiesOf K cE) := by
  refine F.ok sc_ties_of (fun vs H Q E h => ?_) (fun cdv A outer s H vs Q E hr h => ?_)
  · obtain ⟨N, B, H0, L, g, E, rfl, _⟩ := h; rfl
  · obtain ⟨N, B, H0, L, g, E, rfl, R, hB, TF, k⟩ := h
    have nd := sc_ties_of.nd
    have hu1 := u1_of hr
    have hu65 := hu65_of hr
    refine ⟨_, pss_cons (ps_set (i := 1) nd rfl (Or.inl rfl) pe_dnewK)
      (pss_cons (ps_for PassesOwn.never rfl (pi_list (pe_fld (pv 0) rfl)) (pg_tup rfl (pgs_cons (pg_name (i := 2) nd rfl (Or.inl rfl)) (pgs_cons (pg_name (i := 3) nd rfl (Or.inl rfl)) (pgs_cons (pg_name (i := 4) nd rfl (Or.inl rfl)) pgs_nil))))
        (pss_one (ps_expr (pe_bm PySem.F.plainAttrs_list PySem.F.slot_list_append PySem.F.type_list_append mt_append (pe_dsetd (pv 1) (pv 3) (pe_lst pa_nil) ⟨rfl, rfl, rfl, rfl⟩) (pa_cons (pe_tup (pa_cons (pv 2) (pa_cons (pv 4) pa_nil))) pa_nil)))))
      (pss_cons (ps_set (i := 5) nd rfl (Or.inl rfl) (pe_lst pa_nil))
      (pss_cons (ps_lock (ps_for PassesOwn.never rfl (pi_keys (pe_fld (pv 0) rfl)) (pg_name (i := 3) nd rfl (Or.inl rfl))
        (pss_one (ps_expr (pe_bm PySem.F.plainAttrs_list PySem.F.slot_list_extend PySem.F.type_list_extend mt_extend (pv 5) (pa_cons (C8.pe_c c1 hr (by decide) rfl (pa_cons (pv 3) (pa_cons (pe_dget hu1 (pe_fld (pv 0) rfl) (pv 3) (fun _ _ => rfl)) (pa_cons (pe_dget2 hu1 (pv 1) (pv 3) (pe_lst pa_nil) ⟨rfl, rfl, rfl, rfl⟩) pa_nil)))) pa_nil))))))
      (pss_one (ps_ret (pe_callB (cr_sortTies hu65) (by rfl) T.z_sorted (by decide +kernel) (pa_cons (pv 5) pa_nil))))))), ?_⟩
    have big : (700000 : Nat) < sizeLine := by decide
    intro d hd
    have D0 := DC.init (Same.refl H) hd
    have S0 := D0.base
    generalize upd H d (.dK []) = H1 at D0 S0 ⊢
    obtain ⟨dx, hO⟩ := R.objF
    obtain ⟨lk, hlk, llk, plk⟩ := R.looks
    have hLk := R.at_ .looks trivial
    rw [hlk] at hLk
    refine ⟨_, rfl, _, _, _, _, _, rfl, S0 _ _ hO, T.clEngine, T.nEngine_looks, rfl, L .looks, rfl, ⟨lk, SqL.of (S0 _ _ hLk)⟩, for_list (K := K) (a := L .looks) (xs := lk)
      (fun i σ H' => ∃ o2 o3 o4 A gg, σ = [some (.ref (L .obj)), some (.ref d), o2, o3, o4, none] ∧ DC H H' d i A gg ∧ ∀ b, (gg b = none ∧ sgOf (E.looks.take i) b = []) ∨ ∃ acc, gg b = some (.lst acc) ∧ Paired (PairAt K H') acc (sgOf (E.looks.take i) b))
      ⟨none, none, none, _, _, rfl, D0, fun b => .inl ⟨rfl, rfl⟩⟩ (fun i σ H' _ ⟨_, _, _, _, _, _, D, _⟩ => D.base.seq (SqL.of hLk)) ?_ ?_⟩
    · rintro i y σ H2 hy ⟨o2, o3, o4, A, gg, rfl, D2, sp2⟩
      obtain ⟨t, ht, u, rfl, hu⟩ := paired_get plk hy
      have hi := (List.getElem?_eq_some_iff.mp ht).1
      have hf := TF.few
      have e1 : E.looks.take (i + 1) = E.looks.take i ++ [t] := by rw [List.take_add_one, ht]; rfl
      have S2 := D2.base
      refine ⟨u, _, rfl, same_tup S2 hu, rfl, _, _, rfl, _, _, rfl, _, _, rfl, rfl, ?_⟩
      refine ⟨_, rfl, d, rfl, D2.isD, _, rfl, Nat.zero_le _, fun p hp => ?_⟩
      obtain ⟨kv, hkv, lkv, key1, key2⟩ := D2.setd2 (o0 := .lst []) t.2.1 hp
      refine ⟨kv, .inl t.2.1, hkv, rfl, by omega, ?_⟩
      refine ⟨fun v hv => ?_, fun hv => ?_⟩
      · obtain ⟨A3, g3, rfl, D3, hg3, w3⟩ := key1 v hv
        generalize (upd H2 p (.lst [])) = H3 at D3 w3 ⊢
        have hb3 := hg3 t.2.1
        rw [if_pos rfl] at hb3
        obtain ⟨acc, hacc, pacc⟩ : ∃ acc, g3 t.2.1 = some (.lst acc) ∧ Paired (PairAt K H3) acc (sgOf (E.looks.take i) t.2.1) := by
          rcases sp2 t.2.1 with ⟨h1, h2⟩ | ⟨acc, h1, h2⟩
          · rw [h1] at hb3; exact ⟨[], hb3, by rw [h2]; exact .nil⟩
          · rw [h1] at hb3; exact ⟨acc, hb3, Paired.mapP h2 fun _ _ => PairAt.tmono w3⟩
        have h3 := D3.at_ _ _ hacc
        have hal := paired_len pacc
        have hsl : (sgOf (E.looks.take i) t.2.1).length ≤ 100 := by
          unfold sgOf
          rw [List.length_map]
          have := List.length_filter_le (fun t' : Int × Int × Int => decide (t'.2.1 = t.2.1)) (E.looks.take i)
          rw [List.length_take] at this
          omega
        refine ⟨.inl ⟨rfl, _, SqL.of h3⟩, _, rfl, _, rfl, Nat.le_of_ble_eq_true rfl, fun z hz => ?_⟩
        have Sz := same_new (o := .tup [.int t.1, .int t.2.2]) hz
        have h3z := Sz _ _ h3
        have D4 := (D3.mono Sz).wr hacc (.lst (acc ++ [.ref z]))
        have w := TupS.lst (u := .lst (acc ++ [.ref z])) h3z
        refine ⟨A3 t.2.1, _, _, rfl, rfl, h3z, by omega, ?_⟩
        refine ⟨_, _, _, A3, _, rfl, D4, fun b => ?_⟩
        rw [e1, sgOf_snoc]
        by_cases e : b = t.2.1
        · subst e
          rw [setf_same, if_pos rfl]
          exact .inr ⟨_, rfl, paired_snoc (Paired.mapP pacc fun _ _ => PairAt.tmono ((TupS.of Sz).trans w)) ⟨z, rfl, w.tup (SqT.of upd_same)⟩⟩
        · rw [setf_ne _ _ e, if_neg e, List.append_nil, hg3 b, if_neg e]
          rcases sp2 b with ⟨h1, h2⟩ | ⟨ac, h1, h2⟩
          · exact .inl ⟨h1, h2⟩
          · exact .inr ⟨ac, h1, Paired.mapP h2 fun _ _ => PairAt.tmono ((w3.trans (TupS.of Sz)).trans w)⟩
      · obtain ⟨A3, g3, e3, D3, hg3, w3⟩ := key2 hv
        rw [e3] at D3 w3 ⊢
        generalize (upd (upd H2 p (.lst [])) d (.dK (putK kv (.inl t.2.1) (.ref (A3 t.2.1))))) = H3 at D3 w3 ⊢
        have hb3 := hg3 t.2.1
        rw [if_pos rfl] at hb3
        obtain ⟨acc, hacc, pacc⟩ : ∃ acc, g3 t.2.1 = some (.lst acc) ∧ Paired (PairAt K H3) acc (sgOf (E.looks.take i) t.2.1) := by
          rcases sp2 t.2.1 with ⟨h1, h2⟩ | ⟨acc, h1, h2⟩
          · rw [h1] at hb3; exact ⟨[], hb3, by rw [h2]; exact .nil⟩
          · rw [h1] at hb3; exact ⟨acc, hb3, Paired.mapP h2 fun _ _ => PairAt.tmono w3⟩
        have h3 := D3.at_ _ _ hacc
        have hal := paired_len pacc
        have hsl : (sgOf (E.looks.take i) t.2.1).length ≤ 100 := by
          unfold sgOf
          rw [List.length_map]
          have := List.length_filter_le (fun t' : Int × Int × Int => decide (t'.2.1 = t.2.1)) (E.looks.take i)
          rw [List.length_take] at this
          omega
        refine ⟨.inl ⟨rfl, _, SqL.of h3⟩, _, rfl, _, rfl, Nat.le_of_ble_eq_true rfl, fun z hz => ?_⟩
        have Sz := same_new (o := .tup [.int t.1, .int t.2.2]) hz
        have h3z := Sz _ _ h3
        have D4 := (D3.mono Sz).wr hacc (.lst (acc ++ [.ref z]))
        have w := TupS.lst (u := .lst (acc ++ [.ref z])) h3z
        refine ⟨A3 t.2.1, _, _, rfl, rfl, h3z, by omega, ?_⟩
        refine ⟨_, _, _, A3, _, rfl, D4, fun b => ?_⟩
        rw [e1, sgOf_snoc]
        by_cases e : b = t.2.1
        · subst e
          rw [setf_same, if_pos rfl]
          exact .inr ⟨_, rfl, paired_snoc (Paired.mapP pacc fun _ _ => PairAt.tmono ((TupS.of Sz).trans w)) ⟨z, rfl, w.tup (SqT.of upd_same)⟩⟩
        · rw [setf_ne _ _ e, if_neg e, List.append_nil, hg3 b, if_neg e]
          rcases sp2 b with ⟨h1, h2⟩ | ⟨ac, h1, h2⟩
          · exact .inl ⟨h1, h2⟩
          · exact .inr ⟨ac, h1, Paired.mapP h2 fun _ _ => PairAt.tmono ((w3.trans (TupS.of Sz)).trans w)⟩
    rintro σ H2 ⟨o2, o3, o4, A, gg, rfl, D2, sp2⟩
    have hlkl := paired_len plk
    rw [hlkl, List.take_length] at sp2
    have S2 := D2.base
    obtain ⟨kC, hkC, lC, vC, ns, ens, ndns⟩ := R.chains
    have hC := R.at_ .chains trivial
    rw [hkC] at hC
    have hns : ∀ b, b ∈ ns ↔ E.chain b ≠ none := fun b => by
      rw [keys_mem ens, vC]
      cases E.chain b <;> simp
    have nl : ns.length ≤ 60 := nodup_room 60 ns ndns fun b hb => by have := TF.box b ((hns b).mp hb); omega
    have hkl : kC.length = ns.length := by have := congrArg List.length ens; simpa using this
    refine ⟨Nat.zero_le _, fun f0 hf0 => ?_⟩
    have hC2 := S2 _ _ hC
    have nfC : f0 ≠ L .chains := fun z => by rw [z, hC2] at hf0; cases hf0
    refine ⟨L .chains, _, (same_new hf0) _ _ hC2, trivial, fun od => ?_⟩
    -- beneath: without found
    have neC : ∀ s, Live N E s → s ≠ .chains → L s ≠ L .chains := fun s hs hn z => hn (R.inj s .chains hs trivial z)
    have dnC : d ≠ L .chains := fun z => by have := D2.d0; rw [z, hC] at this; cases this
    have Sl : Same (upd H2 (L .chains) (.frz od (.dK kC))) (upd (upd H2 f0 (.lst [])) (L .chains) (.frz od (.dK kC))) := fun b o hb => by
      by_cases e : b = L .chains
      · subst e; rw [upd_same] at hb ⊢; exact hb
      · rw [upd_ne e] at hb ⊢; exact (same_new hf0) b o hb
    have hf1 : (upd (upd H2 f0 (.lst [])) (L .chains) (.frz od (.dK kC))) f0 = some (.lst []) := by rw [upd_ne nfC, upd_same]
    have hfB : (upd H2 (L .chains) (.frz od (.dK kC))) f0 = none := by rw [upd_ne nfC]; exact hf0
    have hCB : (upd H2 (L .chains) (.frz od (.dK kC))) (L .chains) = some (.frz od (.dK kC)) := upd_same
    have hOB : (upd H2 (L .chains) (.frz od (.dK kC))) (L .obj) = some (.ins cE dx (engFs L E.mom)) := by rw [upd_ne (neC .obj trivial (by intro z; cases z))]; exact S2 _ _ hO
    have hdB : ∃ kv, (upd H2 (L .chains) (.frz od (.dK kC))) d = some (.dK kv) ∧ ∀ b, valV kv (.inl b) = (gg b).map fun _ => V.ref (A b) := by
      obtain ⟨kv, h1, _, h3⟩ := D2.dic
      exact ⟨kv, by rw [upd_ne dnC]; exact h1, h3⟩
    have hAB : ∀ b acc, gg b = some (.lst acc) → (upd H2 (L .chains) (.frz od (.dK kC))) (A b) = some (.lst acc) := fun b acc hb => by
      have hg : gg b ≠ none := by rw [hb]; simp
      have : A b ≠ L .chains := fun z => by have := D2.new b hg; rw [z, hC] at this; cases this
      rw [upd_ne this]; exact D2.at_ b _ hb
    have hRB : ∀ b rows, E.chain b = some rows → (upd H2 (L .chains) (.frz od (.dK kC))) (L (.chain b)) = some (.lst (rows.map V.int)) := fun b rows hb => by
      have hl : Live N E (.chain b) := by show E.chain b ≠ none; rw [hb]; simp
      rw [upd_ne (neC _ hl (by intro z; cases z)), S2 _ _ (R.at_ _ hl), (R.chain b rows hb).1]
    have tB : TupS H2 (upd H2 (L .chains) (.frz od (.dK kC))) := TupS.dK hC2
    have sp3 : ∀ b, (gg b = none ∧ sgOf E.looks b = []) ∨ ∃ acc, gg b = some (.lst acc) ∧ Paired (PairAt K (upd H2 (L .chains) (.frz od (.dK kC)))) acc (sgOf E.looks b) := fun b => by
      rcases sp2 b with h | ⟨acc, h1, h2⟩
      · exact .inl h
      · exact .inr ⟨acc, h1, Paired.mapP h2 fun _ _ => PairAt.tmono tB⟩
    have tl : ∀ l : List Int, (l.flatMap fun b => tiesB b (E.rows b) (sgOf E.looks b)).length ≤ l.length * 10000 ∨ ∃ b ∈ l, E.chain b = none := fun l => by
      by_cases hz : ∃ b ∈ l, E.chain b = none
      · exact .inr hz
      · refine .inl (flat_le _ 10000 l fun b hb => ?_)
        cases e : E.chain b with
        | none => exact absurd ⟨b, hb, e⟩ hz
        | some rows =>
          obtain ⟨r1, _, _⟩ := TF.rows b rows e
          have er : E.rows b = rows := by unfold Eng.rows; rw [e]; rfl
          have o1 := overs_len b rows rows.length
          have o2 : rows.length * rows.length ≤ 60 * 60 := Nat.mul_le_mul r1 r1
          have o3 := flat_le (fun p => rows.flatMap (tieStep b rows p)) 60 (sgOf E.looks b) fun p _ => by
            have := flat_le (tieStep b rows p) 1 rows fun x _ => tieStep_len b rows p x
            omega
          have o4 : (sgOf E.looks b).length ≤ 100 := by
            unfold sgOf
            rw [List.length_map]
            exact Nat.le_trans (List.length_filter_le _ _) TF.few
          rw [er]
          unfold tiesB
          rw [List.length_append]
          omega
    generalize hHB : upd H2 (L .chains) (.frz od (.dK kC)) = HB at Sl hfB hCB hOB hdB hAB hRB sp3
    generalize (upd (upd H2 f0 (.lst [])) (L .chains) (.frz od (.dK kC))) = H3 at Sl hf1 ⊢
    refine ⟨_, rfl, _, _, _, _, _, rfl, Sl _ _ hOB, T.clEngine, T.nEngine_chains, rfl, L .chains, od, rfl, .inl ⟨kC, Sl _ _ hCB, for_it walk_keys
      (fun i σ H' => ∃ o3, σ = [some (.ref (L .obj)), some (.ref d), o2, o3, o4, some (.ref f0)] ∧ Same HB H' ∧ ∃ acc, H' f0 = some (.lst acc) ∧ Paired (TieAt K H') acc ((ns.take i).flatMap fun b => tiesB b (E.rows b) (sgOf E.looks b)))
      ⟨o3, rfl, Sl, [], hf1, .nil⟩ (fun i σ H' _ ⟨_, _, S, _⟩ => S _ _ hCB) ?_ ?_⟩⟩
    · rintro i v σ H5 H4 hi ⟨o3', rfl, S4, acc, hf4, hacc⟩ ⟨hH45, kk, v2, hkv, rfl⟩
      subst hH45
      have hns' : (ns.map (Sum.inl (β := Str)))[i]? = some kk := by rw [← ens, List.getElem?_map, hkv]; rfl
      rw [List.getElem?_map] at hns'
      cases hx : ns[i]? with
      | none => rw [hx] at hns'; cases hns'
      | some b =>
        rw [hx] at hns'; cases hns'
        have hbm := List.mem_of_getElem? hx
        obtain ⟨rows, hrows⟩ := Option.ne_none_iff_exists'.mp ((hns b).mp hbm)
        have er : E.rows b = rows := by unfold Eng.rows; rw [hrows]; rfl
        have e1 : ns.take (i + 1) = ns.take i ++ [b] := by rw [List.take_add_one, hx]; rfl
        obtain ⟨t1, t2, t3⟩ := TF.rows b rows hrows
        obtain ⟨kv, hkv2, vkv⟩ := hdB
        refine ⟨_, rfl, .inl ⟨rfl, _, SqL.of hf4⟩, _, rfl, _, rfl, _, _, _, _, _, rfl, S4 _ _ hOB, T.clEngine, T.nEngine_chains, rfl, _, rfl, L .chains, .ref (L (.chain b)), rfl, .inl ⟨kC, .inl b, .inr ⟨od, S4 _ _ hCB⟩, rfl, by rw [vC, hrows]; rfl⟩, ?_⟩
        refine ⟨_, rfl, d, rfl, .inl ⟨kv, .inl (S4 _ _ hkv2)⟩, _, rfl, Nat.zero_le _, fun p hp => ?_⟩
        have Sp := same_new (o := .lst []) hp
        have hg := DGet.k (k := .inl b) (Sp _ _ (S4 _ _ hkv2))
        rw [vkv] at hg
        refine ⟨_, hg, ?_⟩
        obtain ⟨q, us, eq, hq, hus⟩ : ∃ q us, ((gg b).map fun _ => V.ref (A b)).getD (.ref p) = .ref q ∧ SqL K (upd H4 p (.lst [])) q us ∧ Paired (PairAt K (upd H4 p (.lst []))) us (sgOf E.looks b) := by
          rcases sp3 b with ⟨h1, h2⟩ | ⟨ac, h1, h2⟩
          · exact ⟨p, [], by rw [h1]; rfl, SqL.of upd_same, by rw [h2]; exact .nil⟩
          · exact ⟨A b, ac, by rw [h1]; rfl, SqL.of (Sp _ _ (S4 _ _ (hAB b ac h1))), Paired.mapP h2 fun _ _ => PairAt.mono (S4.trans Sp)⟩
        have sl100 : (sgOf E.looks b).length ≤ 100 := by
          unfold sgOf
          rw [List.length_map]
          exact Nat.le_trans (List.length_filter_le _ _) TF.few
        have sgm : ∀ pr ∈ sgOf E.looks b, pr.2 = -1 ∨ pr.2 ∈ rows := by
          intro pr hpr
          unfold sgOf at hpr
          obtain ⟨t, ht, rfl⟩ := List.mem_map.mp hpr
          obtain ⟨ht1, ht2⟩ := List.mem_filter.mp ht
          have := TF.seen t ht1
          rw [of_decide_eq_true ht2, er] at this
          exact this
        rw [eq]
        refine ⟨b, L (.chain b), q, rows, sgOf E.looks b, us, rfl, SqL.of (Sp _ _ (S4 _ _ (hRB b rows hrows))), hq, hus, t1, sl100, t2, t3, sgm, fun p' H6 ac2 S6 h6 hac2 => ?_⟩
        have hf6 := S6 _ _ (Sp _ _ hf4)
        have l1 := paired_len hacc
        have l2 := paired_len hac2
        have hlive : ∀ l : List Int, (∀ c ∈ l, c ∈ ns) → (l.flatMap fun b => tiesB b (E.rows b) (sgOf E.looks b)).length ≤ l.length * 10000 := fun l hl => by
          rcases tl l with z | ⟨c, hc, hc2⟩
          · exact z
          · exact absurd hc2 ((hns c).mp (hl c hc))
        have q1 := hlive (ns.take i) fun c hc => List.mem_of_mem_take hc
        have q2 := hlive [b] fun c hc => by rw [List.mem_singleton] at hc; rw [hc]; exact hbm
        simp only [List.flatMap_cons, List.flatMap_nil, List.append_nil, List.length_singleton] at q2
        rw [er] at q2
        have hik := (List.getElem?_eq_some_iff.mp hx).1
        rw [List.length_take] at q1
        have q3 : min i ns.length * 10000 ≤ 60 * 10000 := Nat.mul_le_mul (by omega) (Nat.le_refl _)
        refine ⟨f0, p', _, _, rfl, rfl, hf6, h6, by omega, ?_⟩
        have w := TupS.lst (u := .lst (acc ++ ac2)) hf6
        refine ⟨_, rfl, same_upd ((S4.trans Sp).trans S6) hfB, _, upd_same, ?_⟩
        rw [e1, List.flatMap_append]
        simp only [List.flatMap_cons, List.flatMap_nil, List.append_nil]
        rw [er]
        exact paired_append (Paired.mapP hacc fun _ _ => TieAt.tmono ((TupS.of (Sp.trans S6)).trans w)) (Paired.mapP hac2 fun _ _ => TieAt.tmono w)
    · rintro σ H4 ⟨o3', rfl, S4, acc, hf4, hacc⟩
      rw [hkl, List.take_length] at hacc
      refine ⟨S4 _ _ hCB, ?_⟩
      subst hHB
      have S5 : Same H2 (upd H4 (L .chains) (.dK kC)) := same_lock hC2 S4
      have tw : ∀ v t, TieAt K H4 v t → TieAt K (upd H4 (L .chains) (.dK kC)) v t := by
        rintro v t ⟨q, rfl, (h | ⟨o, h⟩) | h⟩
        · have : q ≠ L .chains := fun z => by rw [z, S4 _ _ hCB] at h; cases h
          exact ⟨q, rfl, .inl (.inl (by rw [upd_ne this]; exact h))⟩
        · have : q ≠ L .chains := fun z => by rw [z, S4 _ _ hCB] at h; cases h
          exact ⟨q, rfl, .inl (.inr ⟨o, by rw [upd_ne this]; exact h⟩)⟩
        · exact ⟨q, rfl, .inr h⟩
      have hf5 : (upd H4 (L .chains) (.dK kC)) f0 = some (.lst acc) := by rw [upd_ne nfC]; exact hf4
      have hacc5 := Paired.mapP hacc fun v t => tw v t
      generalize (upd H4 (L .chains) (.dK kC)) = H5 at S5 hf5 hacc5 ⊢
      refine ⟨_, rfl, f0, acc, _, rfl, SqL.of hf5, hacc5, fun zs p hperm hp => ?_⟩
      have Sp := same_new (o := .lst (zs.map (·.1))) hp
      have hl5 := paired_len hacc5
      have hz : ∀ z ∈ zs, TieAt K (upd H5 p (.lst (zs.map (·.1)))) z.1 z.2 := fun z hz => by
        have hz := hperm.mem_iff.mp hz
        obtain ⟨j, hj, hj2⟩ := List.mem_iff_getElem.mp hz
        have hz2 : (acc.zip (ns.flatMap fun b => tiesB b (E.rows b) (sgOf E.looks b)))[j]? = some z := by rw [List.getElem?_eq_getElem hj, hj2]
        rw [List.getElem?_zip_eq_some] at hz2
        obtain ⟨t, ht, hT⟩ := paired_get hacc5 hz2.1
        rw [hz2.2] at ht; cases ht
        exact hT.mono Sp
      have hperm2 : (zs.map (·.2)).Perm (ns.flatMap fun b => tiesB b (E.rows b) (sgOf E.looks b)) := by
        have := hperm.map (·.2)
        rwa [zip_snd hl5] at this
      refine k p _ (zs.map (·.1)) (zs.map (·.2)) ((S2.trans S5).trans Sp) upd_same (paired_zs zs hz) (fun t => ?_) ?_
      · rw [hperm2.mem_iff, List.mem_flatMap]
        constructor
        · rintro ⟨b, hb, ht⟩
          obtain ⟨rows, hrows⟩ := Option.ne_none_iff_exists'.mp ((hns b).mp hb)
          have er : E.rows b = rows := by unfold Eng.rows; rw [hrows]; rfl
          exact ⟨b, rows, hrows, er ▸ ht⟩
        · rintro ⟨b, rows, hrows, ht⟩
          have er : E.rows b = rows := by unfold Eng.rows; rw [hrows]; rfl
          exact ⟨b, (hns b).mpr (by rw [hrows]; simp), by rw [er]; exact ht⟩
      · rw [hperm2.length_eq]
        rcases tl ns with z | ⟨c, hc, hc2⟩
        · omega
        · exact absurd hc2 ((hns c).mp hc)
end
end K60

set_option Elab.async false
set_option linter.all false
set_option maxRecDepth 100000
set_option maxHeartbeats 8000000
/-! K61F: ties by pairs; a ring through one. -/
namespace K60
open PySem L2 PySem.Spec
def Ways (K : PySem.W.Frag) (H : Hp) (g : Int → Option HO) (ts : List Tie) : Prop := ∀ a, (g a = none ∧ ∀ t ∈ ts, t.1 ≠ a) ∨
  ∃ kv : List (Key × V), g a = some (.dK kv) ∧ kv.length ≤ ts.length ∧ (∀ e ∈ kv, ∃ o t, e.1 = .inl o ∧ TieAt K H e.2 t ∧ t ∈ ts ∧ t.1 = a ∧ t.2.1 = o) ∧ ∀ t ∈ ts, t.1 = a → valV kv (.inl t.2.1) ≠ none
theorem any_none {kv : List (Key × V)} {k : Key} (h : valV kv k = none) (v : V) : putK kv k v = kv ++ [(k, v)] := by
  unfold putK
  rw [valV_any, h]; rfl
theorem val_snoc_ne {kv : List (Key × V)} {k j : Key} {v : V} (h : valV kv k = none) (hj : valV kv j ≠ none ∨ j = k) : valV (kv ++ [(k, v)]) j ≠ none := by
  rw [valV_snoc k j v kv h]
  by_cases e : j = k
  · rw [if_pos e]; simp
  · rw [if_neg e]; exact hj.resolve_right e
theorem unlock_tup {K : PySem.W.Frag} {H : Hp} {d q : Addr} {od : Obj} {kv : List (Key × V)} {xs : List V} (hd : H d = some (.frz od (.dK kv))) (h : SqT K H q xs) (u : HO) : SqT K (upd H d u) q xs := by
  rcases h with (h | ⟨o, h⟩) | h
  · have : q ≠ d := fun z => by rw [z, hd] at h; cases h
    exact .inl (.inl (by rw [upd_ne this]; exact h))
  · have : q ≠ d := fun z => by rw [z, hd] at h; cases h
    exact .inl (.inr ⟨o, by rw [upd_ne this]; exact h⟩)
  · exact .inr h
section
variable {P : Program} {w : World} {K : PySem.W.Frag} {mg : Str → Option Value} {base : Heap} {cC cE cR : Addr}
def spByPair (K : PySem.W.Frag) : Sp := fun vs H Q _ => ∃ (q : Addr) (us : List V) (ts : List Tie), vs = [.ref q] ∧ SqL K H q us ∧ Paired (TieAt K H) us ts ∧ ts.length ≤ 600000 ∧
  ∀ d H' B A g, DC H H' d B A g → Ways K H g ts → Q (.ref d) H'
theorem ok_tie_by_pair {f : Addr} {fd : FuncData} (F : Fun K "tie_by_pair" "tie_by_pair" s_tie_by_pair f fd) : FnOk P w K mg base CX0 1 f fd ["ties"] (spByPair K) := by
  refine F.ok sc_tie_by_pair (fun vs H Q E h => ?_) (fun cdv A outer s H vs Q E hr h => ?_)
  · obtain ⟨q, us, ts, rfl, _⟩ := h; rfl
  · obtain ⟨q, us, ts, rfl, hq, hus, hl, k⟩ := h
    have nd := sc_tie_by_pair.nd
    have hul := paired_len hus
    have big : (700000 : Nat) < sizeLine := by decide
    refine ⟨_, pss_cons (ps_set (i := 1) nd rfl (Or.inl rfl) pe_dnewK)
      (pss_cons (ps_for PassesOwn.never rfl (pi_list (pv 0)) (pg_name (i := 2) nd rfl (Or.inl rfl))
        (pss_one (ps_expr (pe_dsetd (pe_dsetd (pv 1) (pe_ix ix_tup (pv 2) pe_int (fun _ _ => rfl)) pe_dnewK ⟨rfl, rfl, rfl, rfl⟩) (pe_ix ix_tup (pv 2) pe_int (fun _ _ => rfl)) (pv 2) ⟨rfl, rfl, rfl, rfl⟩))))
      (pss_one (ps_ret (pv 1)))), ?_⟩
    intro d hd
    have D0 := DC.init (Same.refl H) hd
    generalize upd H d (.dK []) = H1 at D0 ⊢
    refine ⟨_, rfl, q, rfl, ⟨us, D0.base.seq hq⟩, for_list (K := K) (a := q) (xs := us) (fun i σ H' => ∃ o A gg, σ = [some (.ref q), some (.ref d), o] ∧ DC H H' d i A gg ∧ Ways K H gg (ts.take i))
      ⟨none, _, _, rfl, D0, fun a => .inl ⟨rfl, by simp⟩⟩ (fun i σ H' _ ⟨_, _, _, _, D, _⟩ => D.base.seq hq) ?_ ?_⟩
    · rintro i y σ H2 hy ⟨o, A, gg, rfl, D2, W2⟩
      obtain ⟨t, ht, u, rfl, hu⟩ := paired_get hus hy
      have hi := (List.getElem?_eq_some_iff.mp ht).1
      have e1 : ts.take (i + 1) = ts.take i ++ [t] := by rw [List.take_add_one, ht]; rfl
      have S2 := D2.base
      have hu2 := same_tup S2 hu
      refine ⟨_, rfl, d, rfl, D2.isD, _, rfl, u, _, _, _, rfl, rfl, hu2, atI_nat (j := 0) rfl, fun p hp => ?_⟩
      obtain ⟨kv, hkv, lkv, key1, key2⟩ := D2.setd2 (o0 := .dK []) t.1 hp
      refine ⟨kv, .inl t.1, hkv, rfl, by omega, ?_⟩
      refine ⟨fun v hv => ?_, fun hv => ?_⟩
      · obtain ⟨A3, g3, rfl, D3, hg3, w3⟩ := key1 v hv
        generalize (upd H2 p (.dK [])) = H3 at D3 w3 ⊢
        have hb3 := hg3 t.1
        rw [if_pos rfl] at hb3
        obtain ⟨kw, hkw, lkw, ent, cov⟩ : ∃ kw : List (Key × V), g3 t.1 = some (.dK kw) ∧ kw.length ≤ (ts.take i).length ∧ (∀ e ∈ kw, ∃ o t', e.1 = .inl o ∧ TieAt K H e.2 t' ∧ t' ∈ ts.take i ∧ t'.1 = t.1 ∧ t'.2.1 = o) ∧ ∀ t' ∈ ts.take i, t'.1 = t.1 → valV kw (.inl t'.2.1) ≠ none := by
          rcases W2 t.1 with ⟨h1, h2⟩ | ⟨kw, h1, h2, h3, h4⟩
          · rw [h1] at hb3; exact ⟨[], hb3, Nat.zero_le _, by simp, fun t' ht' e => absurd e (h2 t' ht')⟩
          · rw [h1] at hb3; exact ⟨kw, hb3, h2, h3, h4⟩
        have h3 := D3.at_ _ _ hkw
        have hu3 := w3.tup hu2
        rw [List.length_take] at lkw
        have others : ∀ (g4 : Int → Option HO) (kw' : List (Key × V)), (∀ a, a ≠ t.1 → g4 a = g3 a) → g4 t.1 = some (.dK kw') → kw'.length ≤ (ts.take (i + 1)).length → (∀ e ∈ kw', ∃ o t', e.1 = .inl o ∧ TieAt K H e.2 t' ∧ t' ∈ ts.take (i + 1) ∧ t'.1 = t.1 ∧ t'.2.1 = o) → (∀ t' ∈ ts.take (i + 1), t'.1 = t.1 → valV kw' (.inl t'.2.1) ≠ none) → Ways K H g4 (ts.take (i + 1)) := by
          intro g4 kw' h1 h2 h3 h4 h5 a
          by_cases ea : a = t.1
          · subst ea; exact .inr ⟨kw', h2, h3, h4, h5⟩
          · rw [h1 a ea, hg3 a, if_neg ea, e1]
            rcases W2 a with ⟨x1, x2⟩ | ⟨kx, x1, x2, x3, x4⟩
            · refine .inl ⟨x1, fun t' ht' => ?_⟩
              rcases List.mem_append.mp ht' with z | z
              · exact x2 t' z
              · rw [List.mem_singleton] at z; rw [z]; exact fun c => ea c.symm
            · refine .inr ⟨kx, x1, by rw [List.length_append]; omega, fun e he => ?_, fun t' ht' et => ?_⟩
              · obtain ⟨o, t', y1, y2, y3, y4⟩ := x3 e he
                exact ⟨o, t', y1, y2, List.mem_append_left _ y3, y4⟩
              · rcases List.mem_append.mp ht' with z | z
                · exact x4 t' z et
                · rw [List.mem_singleton] at z; rw [z] at et; exact absurd et.symm ea
        refine ⟨A3 t.1, rfl, .inl ⟨kw, .inl h3⟩, _, rfl, u, _, _, _, rfl, rfl, hu3, atI_nat (j := 1) rfl, _, rfl, kw, .inl t.2.1, h3, rfl, by omega, fun x hx => ?_, fun hx => ?_⟩
        · refine ⟨_, A3, g3, rfl, D3, others g3 kw (fun _ _ => rfl) hkw (by rw [List.length_take]; omega) (fun e he => ?_) fun t' ht' et => ?_⟩
          · obtain ⟨o, t', y1, y2, y3, y4⟩ := ent e he
            exact ⟨o, t', y1, y2, by rw [e1]; exact List.mem_append_left _ y3, y4⟩
          · rw [e1] at ht'
            rcases List.mem_append.mp ht' with z | z
            · exact cov t' z et
            · rw [List.mem_singleton] at z; rw [z, hx]; simp
        · refine ⟨_, A3, _, rfl, D3.wr hkw _, others _ (putK kw (.inl t.2.1) (.ref u)) (fun a ea => setf_ne _ _ ea) (setf_same _ _ _) ?_ (fun e he => ?_) fun t' ht' et => ?_⟩
          · rw [any_none hx, List.length_append, List.length_take]; simp; omega
          · rw [any_none hx] at he
            rcases List.mem_append.mp he with z | z
            · obtain ⟨o, t', y1, y2, y3, y4⟩ := ent e z
              exact ⟨o, t', y1, y2, by rw [e1]; exact List.mem_append_left _ y3, y4⟩
            · rw [List.mem_singleton] at z
              subst z
              exact ⟨t.2.1, t, rfl, ⟨u, rfl, hu⟩, by rw [e1]; exact List.mem_append_right _ List.mem_cons_self, rfl, rfl⟩
          · rw [any_none hx]
            rw [e1] at ht'
            rcases List.mem_append.mp ht' with z | z
            · exact val_snoc_ne hx (.inl (cov t' z et))
            · rw [List.mem_singleton] at z; rw [z]; exact val_snoc_ne hx (.inr rfl)
      · obtain ⟨A3, g3, e3, D3, hg3, w3⟩ := key2 hv
        rw [e3] at D3 w3 ⊢
        generalize (upd (upd H2 p (.dK [])) d (.dK (putK kv (.inl t.1) (.ref (A3 t.1))))) = H3 at D3 w3 ⊢
        have hb3 := hg3 t.1
        rw [if_pos rfl] at hb3
        obtain ⟨kw, hkw, lkw, ent, cov⟩ : ∃ kw : List (Key × V), g3 t.1 = some (.dK kw) ∧ kw.length ≤ (ts.take i).length ∧ (∀ e ∈ kw, ∃ o t', e.1 = .inl o ∧ TieAt K H e.2 t' ∧ t' ∈ ts.take i ∧ t'.1 = t.1 ∧ t'.2.1 = o) ∧ ∀ t' ∈ ts.take i, t'.1 = t.1 → valV kw (.inl t'.2.1) ≠ none := by
          rcases W2 t.1 with ⟨h1, h2⟩ | ⟨kw, h1, h2, h3, h4⟩
          · rw [h1] at hb3; exact ⟨[], hb3, Nat.zero_le _, by simp, fun t' ht' e => absurd e (h2 t' ht')⟩
          · rw [h1] at hb3; exact ⟨kw, hb3, h2, h3, h4⟩
        have h3 := D3.at_ _ _ hkw
        have hu3 := w3.tup hu2
        rw [List.length_take] at lkw
        have others : ∀ (g4 : Int → Option HO) (kw' : List (Key × V)), (∀ a, a ≠ t.1 → g4 a = g3 a) → g4 t.1 = some (.dK kw') → kw'.length ≤ (ts.take (i + 1)).length → (∀ e ∈ kw', ∃ o t', e.1 = .inl o ∧ TieAt K H e.2 t' ∧ t' ∈ ts.take (i + 1) ∧ t'.1 = t.1 ∧ t'.2.1 = o) → (∀ t' ∈ ts.take (i + 1), t'.1 = t.1 → valV kw' (.inl t'.2.1) ≠ none) → Ways K H g4 (ts.take (i + 1)) := by
          intro g4 kw' h1 h2 h3 h4 h5 a
          by_cases ea : a = t.1
          · subst ea; exact .inr ⟨kw', h2, h3, h4, h5⟩
          · rw [h1 a ea, hg3 a, if_neg ea, e1]
            rcases W2 a with ⟨x1, x2⟩ | ⟨kx, x1, x2, x3, x4⟩
            · refine .inl ⟨x1, fun t' ht' => ?_⟩
              rcases List.mem_append.mp ht' with z | z
              · exact x2 t' z
              · rw [List.mem_singleton] at z; rw [z]; exact fun c => ea c.symm
            · refine .inr ⟨kx, x1, by rw [List.length_append]; omega, fun e he => ?_, fun t' ht' et => ?_⟩
              · obtain ⟨o, t', y1, y2, y3, y4⟩ := x3 e he
                exact ⟨o, t', y1, y2, List.mem_append_left _ y3, y4⟩
              · rcases List.mem_append.mp ht' with z | z
                · exact x4 t' z et
                · rw [List.mem_singleton] at z; rw [z] at et; exact absurd et.symm ea
        refine ⟨A3 t.1, rfl, .inl ⟨kw, .inl h3⟩, _, rfl, u, _, _, _, rfl, rfl, hu3, atI_nat (j := 1) rfl, _, rfl, kw, .inl t.2.1, h3, rfl, by omega, fun x hx => ?_, fun hx => ?_⟩
        · refine ⟨_, A3, g3, rfl, D3, others g3 kw (fun _ _ => rfl) hkw (by rw [List.length_take]; omega) (fun e he => ?_) fun t' ht' et => ?_⟩
          · obtain ⟨o, t', y1, y2, y3, y4⟩ := ent e he
            exact ⟨o, t', y1, y2, by rw [e1]; exact List.mem_append_left _ y3, y4⟩
          · rw [e1] at ht'
            rcases List.mem_append.mp ht' with z | z
            · exact cov t' z et
            · rw [List.mem_singleton] at z; rw [z, hx]; simp
        · refine ⟨_, A3, _, rfl, D3.wr hkw _, others _ (putK kw (.inl t.2.1) (.ref u)) (fun a ea => setf_ne _ _ ea) (setf_same _ _ _) ?_ (fun e he => ?_) fun t' ht' et => ?_⟩
          · rw [any_none hx, List.length_append, List.length_take]; simp; omega
          · rw [any_none hx] at he
            rcases List.mem_append.mp he with z | z
            · obtain ⟨o, t', y1, y2, y3, y4⟩ := ent e z
              exact ⟨o, t', y1, y2, by rw [e1]; exact List.mem_append_left _ y3, y4⟩
            · rw [List.mem_singleton] at z
              subst z
              exact ⟨t.2.1, t, rfl, ⟨u, rfl, hu⟩, by rw [e1]; exact List.mem_append_right _ List.mem_cons_self, rfl, rfl⟩
          · rw [any_none hx]
            rw [e1] at ht'
            rcases List.mem_append.mp ht' with z | z
            · exact val_snoc_ne hx (.inl (cov t' z et))
            · rw [List.mem_singleton] at z; rw [z]; exact val_snoc_ne hx (.inr rfl)
    · rintro σ H2 ⟨o, A, gg, rfl, D2, W2⟩
      rw [hul, List.take_length] at W2
      exact ⟨_, rfl, k d H2 _ A gg D2 W2⟩
end
end K60

set_option Elab.async false
set_option linter.all false
set_option maxRecDepth 100000
set_option maxHeartbeats 8000000
/-! K61G: a ring through one. -/
namespace K60
open PySem L2 PySem.Spec
structure Came (K : PySem.W.Frag) (H : Hp) (ts : List Tie) (st : Int) (kc : List (Key × V)) (rk : Int → Nat) : Prop where
  keys : KeysI kc
  ent : ∀ o v, valV kc (.inl o) = some v → ∃ t, TieAt K H v t ∧ t ∈ ts ∧ t.2.1 = o ∧ (t.1 = st ∨ (valV kc (.inl t.1) ≠ none ∧ rk t.1 < rk o))
  rkl : ∀ o, valV kc (.inl o) ≠ none → rk o < kc.length
structure Lev (K : PySem.W.Frag) (H : Hp) (ts : List Tie) (st : Int) (kc0 kc : List (Key × V)) (rk : Int → Nat) (bl : List Int) : Prop where
  came : Came K H ts st kc rk
  old : ∀ o, valV kc0 (.inl o) ≠ none → valV kc (.inl o) ≠ none
  new : ∀ x ∈ bl, valV kc (.inl x) ≠ none
  all : ∀ o, valV kc (.inl o) ≠ none → valV kc0 (.inl o) ≠ none ∨ o ∈ bl
  len : kc.length = kc0.length + bl.length
section
variable {K : PySem.W.Frag} {H : Hp} {ts : List Tie} {st : Int} {N : Nat}
theorem Came.small {kc : List (Key × V)} {rk : Int → Nat} (C : Came K H ts st kc rk) (hr : ∀ t ∈ ts, 0 ≤ t.2.1 ∧ t.2.1 < N) : kc.length ≤ N := by
  obtain ⟨ns, e, nd⟩ := C.keys
  have hl : kc.length = ns.length := by have := congrArg List.length e; simpa using this
  rw [hl]
  refine nodup_room N ns nd fun x hx => ?_
  obtain ⟨v, hv⟩ := Option.ne_none_iff_exists'.mp ((keys_mem e x).mp hx)
  obtain ⟨t, _, ht, e2, _⟩ := C.ent x v hv
  rw [← e2]; exact hr t ht
theorem Lev.start {kc : List (Key × V)} {rk : Int → Nat} (C : Came K H ts st kc rk) : Lev K H ts st kc kc rk [] :=
  ⟨C, fun _ h => h, by simp, fun _ h => .inl h, rfl⟩
theorem Lev.add {kc0 kc : List (Key × V)} {rk : Int → Nat} {bl : List Int} (L : Lev K H ts st kc0 kc rk bl) {o : Int} {v : V} {t : Tie} (ho : valV kc (.inl o) = none) (hv : TieAt K H v t) (ht : t ∈ ts) (e : t.2.1 = o) (h1 : t.1 = st ∨ valV kc0 (.inl t.1) ≠ none) :
    Lev K H ts st kc0 (putK kc (.inl o) v) (setf rk o kc.length) (bl ++ [o]) := by
  have val : ∀ x, valV (putK kc (.inl o) v) (.inl x) = if x = o then some v else valV kc (.inl x) := fun x => by
    rw [valV_put]
    by_cases c : x = o
    · subst c; rw [if_pos rfl, if_pos rfl]
    · rw [if_neg (fun z => c (by injection z)), if_neg c]
  have hlen : (putK kc (.inl o) v).length = kc.length + 1 := by rw [any_none ho]; simp
  have keep : ∀ x, valV kc (.inl x) ≠ none → x ≠ o := fun x hx c => hx (c ▸ ho)
  refine ⟨⟨L.came.keys.put o v, fun x u hx => ?_, fun x hx => ?_⟩, fun x hx => ?_, fun x hx => ?_, fun x hx => ?_, ?_⟩
  · rw [val] at hx
    by_cases c : x = o
    · subst c
      rw [if_pos rfl] at hx; cases hx
      refine ⟨t, hv, ht, e, ?_⟩
      rcases h1 with h1 | h1
      · exact .inl h1
      · have h2 := L.old _ h1
        refine .inr ⟨?_, ?_⟩
        · rw [val, if_neg (keep _ h2)]; exact h2
        · rw [setf_same, setf_ne _ _ (keep _ h2)]
          exact L.came.rkl _ h2
    · rw [if_neg c] at hx
      obtain ⟨t', a1, a2, a3, a4⟩ := L.came.ent x u hx
      refine ⟨t', a1, a2, a3, a4.imp_right fun ⟨b1, b2⟩ => ⟨?_, ?_⟩⟩
      · rw [val, if_neg (keep _ b1)]; exact b1
      · rw [setf_ne _ _ c, setf_ne _ _ (keep _ b1)]; exact b2
  · rw [hlen]
    rw [val] at hx
    by_cases c : x = o
    · subst c; rw [setf_same]; omega
    · rw [if_neg c] at hx
      rw [setf_ne _ _ c]
      have := L.came.rkl x hx; omega
  · have h2 := L.old x hx
    rw [val, if_neg (keep x h2)]; exact h2
  · rw [val]
    by_cases c : x = o
    · rw [if_pos c]; simp
    · rw [if_neg c]
      rcases List.mem_append.mp hx with z | z
      · exact L.new x z
      · exact absurd (List.mem_singleton.mp z) c
  · rw [val] at hx
    by_cases c : x = o
    · exact .inr (List.mem_append_right _ (by rw [c]; exact List.mem_cons_self))
    · rw [if_neg c] at hx
      exact (L.all x hx).imp_right (List.mem_append_left _)
  · rw [hlen, List.length_append, L.len]; simp; omega
end
section
variable {P : Program} {w : World} {K : PySem.W.Frag} {mg : Str → Option Value} {base : Heap} {cC cE cR : Addr}
def spRingBy (K : PySem.W.Frag) : Sp := fun vs H Q _ => ∃ (q : Addr) (st : Int) (us : List V) (ts : List Tie) (N : Nat), vs = [.ref q, .int st] ∧ SqL K H q us ∧ Paired (TieAt K H) us ts ∧ ts.length ≤ 600000 ∧
  (∀ t ∈ ts, (0 ≤ t.1 ∧ t.1 < N) ∧ 0 ≤ t.2.1 ∧ t.2.1 < N) ∧ N ≤ 60 ∧ (∀ x : Int, 0 ≤ x → x < N → ∃ t ∈ ts, t.1 = x) ∧ 0 ≤ st ∧ st < N ∧
  (∀ p H' acc tl, Same H H' → H p = none → H' p = some (.lst acc) → acc.length ≤ 100 → Paired (TieAt K H') acc tl → Q (.ref p) H') ∧
  ∀ H', Same H H' → (∃ S : Int → Prop, (∀ t ∈ ts, (t.1 = st ∨ S t.1) → S t.2.1) ∧ ¬ S st) → Q .non H'
theorem ok_ring_by {f : Addr} {fd : FuncData} (F : Fun K "ring_by" "ring_by" s_ring_by f fd) (c1 : C8.Cal P w K mg base 1 "tie_by_pair" (spByPair K) []) : FnOk P w K mg base CX0 2 f fd ["ties", "start"] (spRingBy K) := by
  refine F.ok sc_ring_by (fun vs H Q E h => ?_) (fun cdv A outer s H vs Q E hr h => ?_)
  · obtain ⟨q, st, us, ts, N, rfl, _⟩ := h; rfl
  · obtain ⟨q, st, us, ts, N, rfl, hq, hus, hl, rng, hN, outg, st0, st1, k1, k2⟩ := h
    have nd := sc_ring_by.nd
    have hu1 := u1_of hr
    have big : (700000 : Nat) < sizeLine := by decide
    refine ⟨_, pss_cons (ps_set (i := 2) nd rfl (Or.inl rfl) (C8.pe_c c1 hr (by decide) rfl (pa_cons (pv 0) pa_nil)))
      (pss_cons (ps_set (i := 3) nd rfl (Or.inl rfl) pe_dnewK)
      (pss_cons (ps_set (i := 4) nd rfl (Or.inl rfl) (pe_lst (pa_cons (pv 1) pa_nil)))
      (pss_cons (ps_while PassesOwn.never (PW.pt (pw_and (pt_cmpR (op_neD hr.units) (pv 4) (pe_lst pa_nil) (nomark _)) (pw_and1 (pt_cmp (pc_dnotin hu1 (pv 1) (pv 3))))))
        (pss_cons (ps_set (i := 5) nd rfl (Or.inl rfl) (pe_lst pa_nil))
        (pss_cons (ps_for PassesOwn.never rfl (pi_list (pv 4)) (pg_name (i := 6) nd rfl (Or.inl rfl))
          (pss_one (ps_lock (ps_for PassesOwn.never rfl (pi_items (pe_dget2 hu1 (pv 2) (pv 6) pe_dnewK ⟨rfl, rfl, rfl, rfl⟩)) (pg_tup rfl (pgs_cons (pg_name (i := 7) nd rfl (Or.inl rfl)) (pgs_cons (pg_name (i := 8) nd rfl (Or.inl rfl)) pgs_nil)))
            (pss_one (ps_if (pt_cmp (pc_dnotin hu1 (pv 7) (pv 3))) (pss_cons (ps_dput hu1 (pv 3) (pv 7) (pv 8) rfl)
              (pss_one (ps_expr (pe_bm PySem.F.plainAttrs_list PySem.F.slot_list_append PySem.F.type_list_append mt_append (pv 5) (pa_cons (pv 7) pa_nil))))) pss_nil))))))
        (pss_one (ps_set (i := 4) nd rfl (Or.inl rfl) (pv 5))))))
      (pss_cons (ps_if (pt_cmp (pc_dnotin hu1 (pv 1) (pv 3))) (pss_one (ps_ret pe_non)) pss_nil)
      (pss_cons (ps_set (i := 9) nd rfl (Or.inl rfl) (pe_lst (pa_cons (pe_dget hu1 (pv 3) (pv 1) (fun _ _ => rfl)) pa_nil)))
      (pss_cons (ps_while PassesOwn.never (pt_cmpR op_ne (pe_ix ix_tup (pe_ix ix_list (pv 9) pe_int (fun _ _ => rfl)) pe_int (fun _ _ => rfl)) (pv 1) (nomark _))
        (pss_one (ps_expr (pe_bm PySem.F.plainAttrs_list PySem.F.slot_list_insert PySem.F.type_list_insert mt_insert (pv 9) (pa_cons pe_int (pa_cons (pe_dget hu1 (pv 3) (pe_ix ix_tup (pe_ix ix_list (pv 9) pe_int (fun _ _ => rfl)) pe_int (fun _ _ => rfl)) (fun _ _ => rfl)) pa_nil))))))
      (pss_one (ps_ret (pv 9))))))))), ?_⟩
    refine ⟨_, rfl, q, us, ts, rfl, hq, hus, hl, fun d H1 B A g D1 W1 => ?_⟩
    have S1 := D1.base
    -- what the ways are, in H1
    obtain ⟨kd, hkd, _, vkd⟩ := D1.dic
    have way : ∀ a : Int, 0 ≤ a → a < N → ∃ kv : List (Key × V), H1 (A a) = some (.dK kv) ∧ A a ≠ d ∧ valV kd (.inl a) = some (.ref (A a)) ∧ kv.length ≤ ts.length ∧ (∀ e ∈ kv, ∃ o t, e.1 = .inl o ∧ TieAt K H e.2 t ∧ t ∈ ts ∧ t.1 = a ∧ t.2.1 = o) ∧ ∀ t ∈ ts, t.1 = a → valV kv (.inl t.2.1) ≠ none := by
      intro a a0 a1
      rcases W1 a with ⟨_, h2⟩ | ⟨kv, h1, h2, h3, h4⟩
      · obtain ⟨t, ht, e⟩ := outg a a0 a1
        exact absurd e (h2 t ht)
      · exact ⟨kv, D1.at_ a _ h1, D1.ne a (by rw [h1]; simp), by rw [vkd, h1]; rfl, h2, h3, h4⟩
    refine fun cm hcm => ?_
    have Sc := same_new (o := .dK []) hcm
    refine ⟨_, rfl, Nat.le_of_ble_eq_true rfl, fun pf0 hpf0 => ?_⟩
    have Sp0 := same_new (o := .lst [.int st]) hpf0
    -- the floors
    let WW : Nat → List (Option V) → Hp → Prop := fun m σ H' => ∃ (kc : List (Key × V)) (rk : Int → Nat) (fl : List Int) (pf : Addr) (o5 o6 o7 o8 : Option V), σ = [some (.ref q), some (.int st), some (.ref d), some (.ref cm), some (.ref pf), o5, o6, o7, o8, none] ∧ Same H1 H' ∧ H' cm = some (.dK kc) ∧ H' pf = some (.lst (fl.map V.int)) ∧
      Came K H ts st kc rk ∧ (∀ x ∈ fl, (x = st ∨ valV kc (.inl x) ≠ none) ∧ 0 ≤ x ∧ x < N) ∧ fl.length ≤ 100 ∧ (∀ x, (x = st ∨ valV kc (.inl x) ≠ none) → x ∉ fl → ∀ t ∈ ts, t.1 = x → valV kc (.inl t.2.1) ≠ none) ∧ m = 2 * (60 - kc.length) + (if fl = [] then 0 else 1)
    refine ⟨WW, ⟨_, [], fun _ => 0, [st], pf0, none, none, none, none, rfl, Sc.trans Sp0, Sp0 _ _ upd_same, upd_same, ⟨⟨[], rfl, List.nodup_nil⟩, fun o v h => by (cases h), fun o h => absurd rfl h⟩, ?_, (by show 1 ≤ 100; omega), ?_, rfl⟩, ?_⟩
    · intro x hx; rw [List.mem_singleton] at hx; subst hx; exact ⟨.inl rfl, st0, st1⟩
    · intro x hx hn
      rcases hx with z | z
      · subst z; exact absurd List.mem_cons_self hn
      · exact absurd rfl z
    rintro m σ H2 ⟨kc, rk, fl, pf, o5, o6, o7, o8, rfl, S2, hc2, hf2, C2, fl2, fll, clo, rfl⟩
    have kcN := C2.small (fun t ht => (rng t ht).2)
    have hdget : DGet H2 cm (.int st) (valV kc (.inl st)) := DGet.k (k := .inl st) hc2
    -- the test
    refine ⟨_, rfl, Nat.zero_le _, fun e he => ⟨_, _, .lst ((same_new he).seq (SqL.of hf2)) (ints_dp _), .lst (SqL.of upd_same) .nil, ints_shaped _, nil_shaped, ?_⟩⟩
    have Se := same_new (o := .lst []) he
    generalize upd H2 e (.lst []) = H3 at Se ⊢
    by_cases hfl : fl = []
    · have et : PyData.eqv (.list (fl.map PyData.int)) (.list []) = true := by rw [hfl]; exact eqv_nil0
      rw [et]
      refine ⟨false, rfl, iteF (iteF ?_)⟩
      have S3 := Se
      have hex : valV kc (.inl st) = none → fl = [] := fun _ => hfl
      have S13 := S2.trans S3
      have SH3 := S1.trans S13
      have hc3 := S3 _ _ hc2
      have hd3 := DGet.k (k := .inl st) hc3
      refine ⟨_, rfl, _, rfl, cm, _, rfl, hd3, _, rfl, ?_⟩
      cases hst : valV kc (.inl st) with
      | none =>
        refine iteT (k2 H3 SH3 ⟨fun o => valV kc (.inl o) ≠ none, fun t ht h => ?_, fun h => h hst⟩)
        exact clo t.1 h (by rw [hex hst]; simp) t ht rfl
      | some v0 =>
        rw [hst] at hd3
        refine iteF ⟨_, rfl, _, rfl, cm, v0, rfl, hd3, Nat.le_of_ble_eq_true rfl, fun fd hfd => ?_⟩
        obtain ⟨t0, ht0, ht0m, ht0e, ht0r⟩ := C2.ent st v0 hst
        have hfdH : H fd = none := none_of SH3 hfd
        have Sf := same_new (o := .lst [v0]) hfd
        have rkm : ∀ t : Tie, (t.1 = st ∨ (valV kc (.inl t.1) ≠ none ∧ True)) → (if t.1 = st then 0 else rk t.1 + 1) ≤ 60 := fun t h => by
          by_cases c : t.1 = st
          · rw [if_pos c]; omega
          · rw [if_neg c]
            have := C2.rkl _ (h.resolve_left c).1
            omega
        let W2 : Nat → List (Option V) → Hp → Prop := fun m σ H' => ∃ (v : V) (acc : List V) (t : Tie) (tl : List Tie), σ = [some (.ref q), some (.int st), some (.ref d), some (.ref cm), some (.ref pf), o5, o6, o7, o8, some (.ref fd)] ∧ Same H3 H' ∧ H' fd = some (.lst (v :: acc)) ∧
          TieAt K H v t ∧ t ∈ ts ∧ Paired (TieAt K H) acc tl ∧ (t.1 = st ∨ valV kc (.inl t.1) ≠ none) ∧ m = (if t.1 = st then 0 else rk t.1 + 1) ∧ m + acc.length ≤ 60
        refine ⟨W2, ⟨_, v0, [], t0, [], rfl, Sf, upd_same, ht0, ht0m, .nil, ht0r.imp_right (·.1), rfl, rkm t0 (ht0r.imp_right fun h => ⟨h.1, trivial⟩)⟩, ?_⟩
        rintro m2 σ2 H4 ⟨v, acc, t, tl, rfl, S4, hf4, ht, htm, hacc, htr, rfl, hml⟩
        obtain ⟨pt, rfl, hpt⟩ := ht
        have SH4 := SH3.trans S4
        have hpt4 := same_tup SH4 hpt
        refine ⟨_, rfl, fd, _, _, _, rfl, rfl, SqL.of hf4, atI_nat (j := 0) rfl, pt, _, _, _, rfl, rfl, hpt4, atI_nat (j := 0) rfl, _, rfl, rfl, !decide (t.1 = st), congrArg V.bl (by simp), ?_⟩
        by_cases c : t.1 = st
        · rw [decide_eq_true c]
          refine iteF ⟨_, rfl, k1 fd H4 (.ref pt :: acc) (t :: tl) SH4 hfdH hf4 (by rw [List.length_cons]; omega) (.cons ⟨pt, rfl, hpt4⟩ (Paired.mapP hacc fun _ _ => TieAt.mono SH4))⟩
        · rw [decide_eq_false c]
          have hne := htr.resolve_left c
          obtain ⟨v', hv'⟩ := Option.ne_none_iff_exists'.mp hne
          obtain ⟨t', ht', htm', hte', htr'⟩ := C2.ent t.1 v' hv'
          have hd4 := DGet.k (k := .inl t.1) (S4 _ _ hc3)
          rw [hv'] at hd4
          rw [if_neg c] at hml
          refine iteT ⟨fun σ' H' => ∃ m', m' < (if t.1 = st then 0 else rk t.1 + 1) ∧ W2 m' σ' H', fun _ _ h => h, ?_⟩
          refine ⟨_, rfl, .inl ⟨rfl, _, SqL.of hf4⟩, _, rfl, _, rfl, fd, _, _, _, rfl, rfl, SqL.of hf4, atI_nat (j := 0) rfl, pt, _, _, _, rfl, rfl, hpt4, atI_nat (j := 0) rfl, cm, v', rfl, hd4, ?_⟩
          refine ⟨fd, _, 0, v', rfl, rfl, hf4, by rw [List.length_cons]; omega, by decide, by decide, ?_⟩
          refine ⟨_, ?_, v', .ref pt :: acc, t', t :: tl, rfl, same_upd S4 hfd, ?_, ht', htm', .cons ⟨pt, rfl, hpt⟩ hacc, htr'.imp_right (·.1), rfl, ?_⟩
          · rw [if_neg c]
            by_cases c' : t'.1 = st
            · rw [if_pos c']; omega
            · rw [if_neg c']; have := (htr'.resolve_left c').2; omega
          · rw [upd_same]; simp
          · rw [List.length_cons]
            by_cases c' : t'.1 = st
            · rw [if_pos c']; omega
            · rw [if_neg c']; have := (htr'.resolve_left c').2; omega
    have et : PyData.eqv (.list (fl.map PyData.int)) (.list []) = false := eqv_nil hfl
    rw [et]
    have hcE := Se _ _ hc2
    refine ⟨true, rfl, iteT ⟨_, rfl, _, rfl, cm, _, rfl, DGet.k (k := .inl st) hcE, !(valV kc (.inl st)).isSome, rfl, ?_⟩⟩
    cases hs0 : valV kc (.inl st) with
    | some z0 =>
      refine iteF ?_
      have S3 := Se
      have hex : valV kc (.inl st) = none → fl = [] := fun h => by rw [hs0] at h; cases h
      have S13 := S2.trans S3
      have SH3 := S1.trans S13
      have hc3 := S3 _ _ hc2
      have hd3 := DGet.k (k := .inl st) hc3
      refine ⟨_, rfl, _, rfl, cm, _, rfl, hd3, _, rfl, ?_⟩
      cases hst : valV kc (.inl st) with
      | none =>
        refine iteT (k2 H3 SH3 ⟨fun o => valV kc (.inl o) ≠ none, fun t ht h => ?_, fun h => h hst⟩)
        exact clo t.1 h (by rw [hex hst]; simp) t ht rfl
      | some v0 =>
        rw [hst] at hd3
        refine iteF ⟨_, rfl, _, rfl, cm, v0, rfl, hd3, Nat.le_of_ble_eq_true rfl, fun fd hfd => ?_⟩
        obtain ⟨t0, ht0, ht0m, ht0e, ht0r⟩ := C2.ent st v0 hst
        have hfdH : H fd = none := none_of SH3 hfd
        have Sf := same_new (o := .lst [v0]) hfd
        have rkm : ∀ t : Tie, (t.1 = st ∨ (valV kc (.inl t.1) ≠ none ∧ True)) → (if t.1 = st then 0 else rk t.1 + 1) ≤ 60 := fun t h => by
          by_cases c : t.1 = st
          · rw [if_pos c]; omega
          · rw [if_neg c]
            have := C2.rkl _ (h.resolve_left c).1
            omega
        let W2 : Nat → List (Option V) → Hp → Prop := fun m σ H' => ∃ (v : V) (acc : List V) (t : Tie) (tl : List Tie), σ = [some (.ref q), some (.int st), some (.ref d), some (.ref cm), some (.ref pf), o5, o6, o7, o8, some (.ref fd)] ∧ Same H3 H' ∧ H' fd = some (.lst (v :: acc)) ∧
          TieAt K H v t ∧ t ∈ ts ∧ Paired (TieAt K H) acc tl ∧ (t.1 = st ∨ valV kc (.inl t.1) ≠ none) ∧ m = (if t.1 = st then 0 else rk t.1 + 1) ∧ m + acc.length ≤ 60
        refine ⟨W2, ⟨_, v0, [], t0, [], rfl, Sf, upd_same, ht0, ht0m, .nil, ht0r.imp_right (·.1), rfl, rkm t0 (ht0r.imp_right fun h => ⟨h.1, trivial⟩)⟩, ?_⟩
        rintro m2 σ2 H4 ⟨v, acc, t, tl, rfl, S4, hf4, ht, htm, hacc, htr, rfl, hml⟩
        obtain ⟨pt, rfl, hpt⟩ := ht
        have SH4 := SH3.trans S4
        have hpt4 := same_tup SH4 hpt
        refine ⟨_, rfl, fd, _, _, _, rfl, rfl, SqL.of hf4, atI_nat (j := 0) rfl, pt, _, _, _, rfl, rfl, hpt4, atI_nat (j := 0) rfl, _, rfl, rfl, !decide (t.1 = st), congrArg V.bl (by simp), ?_⟩
        by_cases c : t.1 = st
        · rw [decide_eq_true c]
          refine iteF ⟨_, rfl, k1 fd H4 (.ref pt :: acc) (t :: tl) SH4 hfdH hf4 (by rw [List.length_cons]; omega) (.cons ⟨pt, rfl, hpt4⟩ (Paired.mapP hacc fun _ _ => TieAt.mono SH4))⟩
        · rw [decide_eq_false c]
          have hne := htr.resolve_left c
          obtain ⟨v', hv'⟩ := Option.ne_none_iff_exists'.mp hne
          obtain ⟨t', ht', htm', hte', htr'⟩ := C2.ent t.1 v' hv'
          have hd4 := DGet.k (k := .inl t.1) (S4 _ _ hc3)
          rw [hv'] at hd4
          rw [if_neg c] at hml
          refine iteT ⟨fun σ' H' => ∃ m', m' < (if t.1 = st then 0 else rk t.1 + 1) ∧ W2 m' σ' H', fun _ _ h => h, ?_⟩
          refine ⟨_, rfl, .inl ⟨rfl, _, SqL.of hf4⟩, _, rfl, _, rfl, fd, _, _, _, rfl, rfl, SqL.of hf4, atI_nat (j := 0) rfl, pt, _, _, _, rfl, rfl, hpt4, atI_nat (j := 0) rfl, cm, v', rfl, hd4, ?_⟩
          refine ⟨fd, _, 0, v', rfl, rfl, hf4, by rw [List.length_cons]; omega, by decide, by decide, ?_⟩
          refine ⟨_, ?_, v', .ref pt :: acc, t', t :: tl, rfl, same_upd S4 hfd, ?_, ht', htm', .cons ⟨pt, rfl, hpt⟩ hacc, htr'.imp_right (·.1), rfl, ?_⟩
          · rw [if_neg c]
            by_cases c' : t'.1 = st
            · rw [if_pos c']; omega
            · rw [if_neg c']; have := (htr'.resolve_left c').2; omega
          · rw [upd_same]; simp
          · rw [List.length_cons]
            by_cases c' : t'.1 = st
            · rw [if_pos c']; omega
            · rw [if_neg c']; have := (htr'.resolve_left c').2; omega
    | none =>
      refine iteT ?_
      refine ⟨fun σ' H' => ∃ m', m' < 2 * (60 - kc.length) + (if fl = [] then 0 else 1) ∧ WW m' σ' H', fun _ _ h => h, ?_⟩
      refine ⟨Nat.zero_le _, fun bd hbd => ?_⟩
      have Sb := same_new (o := .lst []) hbd
      have S13 := S2.trans (Se.trans Sb)
      have hc4 := Sb _ _ hcE
      have hf4 := Sb _ _ (Se _ _ hf2)
      have hb4 : (upd H3 bd (.lst [])) bd = some (.lst []) := upd_same
      have hbd1 : H1 bd = none := none_of (S2.trans Se) hbd
      have nbp : pf ≠ bd := fun z => by rw [z, none_of Se hbd] at hf2; cases hf2
      generalize upd H3 bd (.lst []) = H4 at S13 hc4 hf4 hb4 ⊢
      let IN : Nat → List (Key × V) → (Int → Nat) → List Int → Hp → Prop := fun i kc' rk' bl H' => H' cm = some (.dK kc') ∧ H' pf = some (.lst (fl.map V.int)) ∧ H' bd = some (.lst (bl.map V.int)) ∧ Lev K H ts st kc kc' rk' bl ∧ ∀ x ∈ fl.take i, ∀ t ∈ ts, t.1 = x → valV kc' (.inl t.2.1) ≠ none
      have inSmall : ∀ {i kc' rk' bl H'}, IN i kc' rk' bl H' → kc'.length ≤ 60 ∧ bl.length ≤ 60 := fun h => by
        have h1 := h.2.2.2.1.came.small (fun t ht => (rng t ht).2)
        have h2 := h.2.2.2.1.len
        omega
      refine ⟨_, rfl, pf, rfl, ⟨_, SqL.of hf4⟩, for_list (K := K) (a := pf) (xs := fl.map V.int) (fun i σ H' => ∃ (o6 o7 o8 : Option V) (kc' : List (Key × V)) (rk' : Int → Nat) (bl : List Int), σ = [some (.ref q), some (.int st), some (.ref d), some (.ref cm), some (.ref pf), some (.ref bd), o6, o7, o8, none] ∧ Same H1 H' ∧ IN i kc' rk' bl H')
        ⟨o6, o7, o8, kc, rk, [], rfl, S13, hc4, hf4, hb4, Lev.start C2, by simp⟩ (fun i σ H' _ ⟨_, _, _, _, _, _, _, _, h⟩ => SqL.of h.2.1) ?_ ?_⟩
      · rintro i y σ H5 hy ⟨o6, o7, o8, kc', rk', bl, rfl, S5, in5⟩
        obtain ⟨x, hx, rfl⟩ := ints_get hy
        have e1 : fl.take (i + 1) = fl.take i ++ [x] := by rw [List.take_add_one, hx]; rfl
        obtain ⟨hxc, x0, x1⟩ := fl2 x (List.mem_of_getElem? hx)
        obtain ⟨kv, hA, nAd, hvd, lkv, ent, cov⟩ := way x x0 x1
        have hA5 := S5 _ _ hA
        refine ⟨A x, _, hA5, trivial, fun od => ?_⟩
        have nAc : cm ≠ A x := fun z => by rw [z, hA] at hcm; cases hcm
        have nAp : pf ≠ A x := fun z => by have := in5.2.1; rw [z, hA5] at this; cases this
        have nAb : bd ≠ A x := fun z => by rw [z, hA] at hbd1; cases hbd1
        have SB : Same (upd H1 (A x) (.frz od (.dK kv))) (upd H5 (A x) (.frz od (.dK kv))) := fun b o hb => by
          by_cases e : b = A x
          · subst e; rw [upd_same] at hb ⊢; exact hb
          · rw [upd_ne e] at hb ⊢; exact S5 b o hb
        have inB : IN i kc' rk' bl (upd H5 (A x) (.frz od (.dK kv))) := ⟨by rw [upd_ne nAc]; exact in5.1, by rw [upd_ne nAp]; exact in5.2.1, by rw [upd_ne nAb]; exact in5.2.2.1, in5.2.2.2⟩
        have hdB : (upd H1 (A x) (.frz od (.dK kv))) d = some (.dK kd) := by rw [upd_ne nAd.symm]; exact hkd
        have hAB : (upd H1 (A x) (.frz od (.dK kv))) (A x) = some (.frz od (.dK kv)) := upd_same
        have hcB : (upd H1 (A x) (.frz od (.dK kv))) cm = none := by rw [upd_ne nAc]; exact hcm
        have hbB : (upd H1 (A x) (.frz od (.dK kv))) bd = none := by rw [upd_ne nAb]; exact hbd1
        have unl : ∀ H', Same (upd H1 (A x) (.frz od (.dK kv))) H' → Same H1 (upd H' (A x) (.dK kv)) := fun H' S => same_lock hA S
        generalize upd H1 (A x) (.frz od (.dK kv)) = HB at SB hdB hAB hcB hbB unl
        generalize upd H5 (A x) (.frz od (.dK kv)) = H6 at SB inB ⊢
        refine ⟨_, rfl, d, rfl, .inl ⟨kd, .inl (SB _ _ hdB)⟩, _, rfl, fun p hp => ?_⟩
        have Sp := same_new (o := .dK []) hp
        have SB2 := SB.trans Sp
        have hg := DGet.k (k := .inl x) (SB2 _ _ hdB)
        rw [hvd] at hg
        have inB2 : IN i kc' rk' bl (upd H6 p (.dK [])) := ⟨Sp _ _ inB.1, Sp _ _ inB.2.1, Sp _ _ inB.2.2.1, inB.2.2.2⟩
        generalize upd H6 p (.dK []) = H7 at SB2 hg inB2 ⊢
        refine ⟨_, hg, A x, od, kv, rfl, SB2 _ _ hAB, for_it walk_items (fun j σ H' => ∃ (o7 o8 : Option V) (kc' : List (Key × V)) (rk' : Int → Nat) (bl : List Int), σ = [some (.ref q), some (.int st), some (.ref d), some (.ref cm), some (.ref pf), some (.ref bd), some (.int x), o7, o8, none] ∧ Same HB H' ∧ IN i kc' rk' bl H' ∧ ∀ e ∈ kv.take j, valV kc' e.1 ≠ none)
          ⟨o7, o8, kc', rk', bl, rfl, SB2, inB2, by simp⟩ (fun j σ H' _ ⟨_, _, _, _, _, _, S, _⟩ => S _ _ hAB) ?_ ?_⟩
        · rintro j v σ H8 H9 hj ⟨o7, o8, kc2, rk2, bl2, rfl, S8, in8, don⟩ ⟨t9, x9, y9, rfl, ht9, hH9, hx9, hy9⟩
          subst hH9
          have hkj : kv[j]? = some kv[j] := List.getElem?_eq_getElem hj
          have hx9' : (kv[j]?).map (fun e : Key × V => kV e.1) = some x9 := hx9
          have hy9' : (kv[j]?).map (fun e : Key × V => e.2) = some y9 := hy9
          rw [hkj] at hx9' hy9'
          obtain rfl := Option.some.inj hx9'
          obtain rfl := Option.some.inj hy9'
          clear hx9 hy9 hx9' hy9'
          obtain ⟨o, t, eo, htt, htm, ht1, ht2⟩ := ent kv[j] (List.getElem_mem hj)
          have e2 : kv.take (j + 1) = kv.take j ++ [kv[j]] := by rw [List.take_add_one, hkj]; rfl
          have St := same_new (o := .tup [kV kv[j].1, kv[j].2]) ht9
          have S9 := S8.trans St
          have in9 : IN i kc2 rk2 bl2 (upd H8 t9 (.tup [kV kv[j].1, kv[j].2])) := ⟨St _ _ in8.1, St _ _ in8.2.1, St _ _ in8.2.2.1, in8.2.2.2⟩
          have htup : (upd H8 t9 (.tup [kV kv[j].1, kv[j].2])) t9 = some (.tup [.int o, kv[j].2]) := by rw [upd_same, eo]; rfl
          generalize upd H8 t9 (.tup [kV kv[j].1, kv[j].2]) = H9 at S9 in9 htup ⊢
          obtain ⟨s60, b60⟩ := inSmall in9
          refine ⟨t9, _, rfl, SqT.of htup, rfl, _, _, rfl, _, _, rfl, rfl, ?_⟩
          refine ⟨_, rfl, _, rfl, cm, _, rfl, DGet.k (k := .inl o) in9.1, !(valV kc2 (.inl o)).isSome, rfl, ?_⟩
          cases ho : valV kc2 (.inl o) with
          | some z =>
            refine iteF ⟨_, _, kc2, rk2, bl2, rfl, S9, in9, fun e he => ?_⟩
            rw [e2] at he
            rcases List.mem_append.mp he with z1 | z1
            · exact don e z1
            · rw [List.mem_singleton] at z1; rw [z1, eo, ho]; simp
          | none =>
            refine iteT ⟨_, rfl, _, rfl, _, rfl, cm, _, rfl, DPut.k (k := .inl o) in9.1 (by omega), ?_⟩
            have nbc : bd ≠ cm := fun z => by have h1 := in9.1; have h2 := in9.2.2.1; rw [z, h1] at h2; cases h2
            have npc : pf ≠ cm := fun z => by have h1 := in9.1; have h2 := in9.2.1; rw [z, h1] at h2; cases h2
            have hbX : (upd H9 cm (.dK (putK kc2 (.inl o) kv[j].2))) bd = some (.lst (bl2.map V.int)) := by rw [upd_ne nbc]; exact in9.2.2.1
            refine ⟨_, rfl, .inl ⟨rfl, _, SqL.of hbX⟩, _, rfl, bd, _, _, rfl, rfl, hbX, by rw [List.length_map]; omega, ?_⟩
            have mono : ∀ k', valV kc2 k' ≠ none → valV (putK kc2 (.inl o) kv[j].2) k' ≠ none := fun k' hk => by
              rw [valV_put]
              by_cases c : k' = .inl o
              · rw [if_pos c]; simp
              · rw [if_neg c]; exact hk
            refine ⟨_, _, putK kc2 (.inl o) kv[j].2, setf rk2 o kc2.length, bl2 ++ [o], rfl, same_upd (same_upd S9 hcB) hbB, ⟨?_, ?_, ?_, in9.2.2.2.1.add ho htt htm ht2 ?_, fun x' hx' t' ht' e' => mono _ (in9.2.2.2.2 x' hx' t' ht' e')⟩, fun e he => ?_⟩
            · rw [upd_ne nbc.symm, upd_same]
            · rw [upd_ne nbp, upd_ne npc]; exact in9.2.1
            · rw [upd_same, List.map_append]; rfl
            · rw [ht1]; exact hxc
            · rw [e2] at he
              rcases List.mem_append.mp he with z1 | z1
              · exact mono _ (don e z1)
              · rw [List.mem_singleton] at z1; rw [z1, eo, valV_put, if_pos rfl]; simp
        · rintro σ H8 ⟨o7, o8, kc2, rk2, bl2, rfl, S8, in8, don⟩
          rw [List.take_length] at don
          refine ⟨S8 _ _ hAB, _, _, _, kc2, rk2, bl2, rfl, unl _ S8, by rw [upd_ne nAc]; exact in8.1, by rw [upd_ne nAp]; exact in8.2.1, by rw [upd_ne nAb]; exact in8.2.2.1, in8.2.2.2.1, fun x' hx' t' ht' e' => ?_⟩
          rw [e1] at hx'
          rcases List.mem_append.mp hx' with z | z
          · exact in8.2.2.2.2 x' z t' ht' e'
          · rw [List.mem_singleton] at z
            have h1 := cov t' ht' (e'.trans z)
            rw [← Option.isSome_iff_ne_none, ← valV_any, List.any_eq_true] at h1
            obtain ⟨e, he, hk⟩ := h1
            have := don e he
            rw [of_decide_eq_true hk] at this
            exact this
      · rintro σ H5 ⟨o6, o7, o8, kc', rk', bl, rfl, S5, in5⟩
        obtain ⟨s60, b60⟩ := inSmall in5
        obtain ⟨h1, h2, h3, L5, cl5⟩ := in5
        rw [List.length_map, List.take_length] at cl5
        have hlen := L5.len
        have rgB : ∀ x ∈ bl, 0 ≤ x ∧ x < N := fun x hx => by
          obtain ⟨v, hv⟩ := Option.ne_none_iff_exists'.mp (L5.new x hx)
          obtain ⟨t, _, ht, e2, _⟩ := L5.came.ent x v hv
          rw [← e2]; exact (rng t ht).2
        refine ⟨_, rfl, 2 * (60 - kc'.length) + (if bl = [] then 0 else 1), ?_, kc', rk', bl, bd, _, _, _, _, rfl, S5, h1, h3, L5.came, fun x hx => ⟨.inr (L5.new x hx), rgB x hx⟩, by omega, fun x hx hn t ht et => ?_, rfl⟩
        · rw [if_neg hfl]
          by_cases c : bl = []
          · rw [if_pos c]; rw [c] at hlen; simp at hlen; omega
          · rw [if_neg c]
            have := List.length_pos_iff.mpr c
            omega
        · have hx' : x = st ∨ valV kc (.inl x) ≠ none := by
            rcases hx with z | z
            · exact .inl z
            · exact .inr ((L5.all x z).resolve_right hn)
          by_cases hxf : x ∈ fl
          · exact cl5 x hxf t ht et
          · exact L5.old _ (clo x hx' hxf t ht et)
end
end K60

set_option Elab.async false
set_option linter.all false
set_option maxRecDepth 100000
set_option maxHeartbeats 8000000
/-! K61H: a shortest ring; a run's ties and ring. -/
namespace K60
open PySem L2 PySem.Spec
theorem kd_ok : ∀ n : Nat, PyData.strOk (kdS n) = true
  | 0 => by show PyData.strOk "over" = true; decide +kernel
  | 1 => by show PyData.strOk "from" = true; decide +kernel
  | _ + 2 => by show PyData.strOk "past" = true; decide +kernel
def ringD (tl : List Tie) : PyData := .list (tl.map tieD)
theorem ringD_lay (tl : List Tie) : PyData.canLay0 (ringD tl) = true := by
  unfold ringD
  simp only [PyData.canLay0]
  induction tl with
  | nil => simp [PyData.canLayAll0]
  | cons t tl ih => simp only [List.map_cons, PyData.canLayAll0, ih, Bool.and_true]; simp [tieD, PyData.canLay0, PyData.canLayAll0, kd_ok]
theorem ringDs_lay : ∀ rs : List (List Tie), PyData.canLayAll0 (rs.map ringD) = true
  | [] => by simp [PyData.canLayAll0]
  | r :: rs => by simp only [List.map_cons, PyData.canLayAll0, ringD_lay, ringDs_lay rs, Bool.and_true]
theorem tieDs_depth : ∀ tl : List Tie, PyData.depthAll (tl.map tieD) ≤ 2
  | [] => by simp [PyData.depthAll]
  | t :: tl => by
    have ih := tieDs_depth tl
    have h : (tieD t).depth = 1 := by simp [tieD, PyData.depth, PyData.depthAll]
    simp only [List.map_cons, PyData.depthAll, h]
    omega
theorem ringDs_depth : ∀ rs : List (List Tie), PyData.depthAll (rs.map ringD) ≤ 4
  | [] => by simp [PyData.depthAll]
  | r :: rs => by
    have ih := ringDs_depth rs
    have h1 := tieDs_depth r
    have h : (ringD r).depth ≤ 4 := by unfold ringD; simp only [PyData.depth]; omega
    simp only [List.map_cons, PyData.depthAll]
    omega
theorem rings_shaped (rs : List (List Tie)) : SeqAt.shaped (.list (rs.map ringD)) = true := by
  show (PyData.canLay0 (.list (rs.map ringD)) && decide (PyData.depth (.list (rs.map ringD)) ≤ 64)) = true
  have h2 : PyData.depth (.list (rs.map ringD)) ≤ 64 := by have := ringDs_depth rs; simp only [PyData.depth]; omega
  rw [decide_eq_true h2, Bool.and_true]
  simp only [PyData.canLay0]; exact ringDs_lay rs
theorem eqv_nilD {ds : List PyData} (h : ds ≠ []) : PyData.eqv (.list ds) (.list []) = false := by
  cases ds with
  | nil => exact absurd rfl h
  | cons n ns => simp [PyData.eqv, PyData.eqvAll]
section
variable {P : Program} {w : World} {K : PySem.W.Frag} {mg : Str → Option Value} {base : Heap} {cC cE cR : Addr}
def RingV (K : PySem.W.Frag) (H : Hp) (v : V) (tl : List Tie) : Prop := ∃ p acc, v = .ref p ∧ H p = some (.lst acc) ∧ Paired (TieAt K H) acc tl
theorem RingV.mono {H H' : Hp} (S : Same H H') {v : V} {tl : List Tie} : RingV K H v tl → RingV K H' v tl := fun ⟨p, acc, a, b, c⟩ => ⟨p, acc, a, S _ _ b, Paired.mapP c fun _ _ => TieAt.mono S⟩
theorem ties_dp {H : Hp} : ∀ {acc : List V} {tl : List Tie}, Paired (TieAt K H) acc tl → DpAll K H acc (tl.map tieD)
  | _, _, .nil => .nil
  | _, _, .cons r t => .cons r.dp (ties_dp t)
theorem RingV.dp {H : Hp} {v : V} {tl : List Tie} : RingV K H v tl → Dp K H v (ringD tl) := fun ⟨p, acc, a, b, c⟩ => by
  subst a; exact .lst (SqL.of b) (ties_dp c)
theorem rings_dp {H : Hp} : ∀ {vs : List V} {rs : List (List Tie)}, Paired (RingV K H) vs rs → DpAll K H vs (rs.map ringD)
  | _, _, .nil => .nil
  | _, _, .cons r t => .cons r.dp (rings_dp t)
/-- a ring away from D, or None -/
def OptR (K : PySem.W.Frag) (H : Hp) (D : Addr) (v : V) (o : Option (List Tie)) : Prop := match o with
  | none => v = .non
  | some tl => ∃ p acc, v = .ref p ∧ p ≠ D ∧ H p = some (.lst acc) ∧ Paired (TieAt K H) acc tl
theorem OptR.mono {H H' : Hp} {D : Addr} (S : Same H H') {v : V} : ∀ {o : Option (List Tie)}, OptR K H D v o → OptR K H' D v o
  | none, h => h
  | some tl, ⟨p, acc, a, n, b, c⟩ => ⟨p, acc, a, n, S _ _ b, Paired.mapP c fun _ _ => TieAt.mono S⟩
theorem OptR.app {H : Hp} {D : Addr} {xs ys : List V} (h : H D = some (.lst xs)) {v : V} : ∀ {o : Option (List Tie)}, OptR K H D v o → OptR K (upd H D (.lst ys)) D v o
  | none, e => e
  | some tl, ⟨p, acc, a, n, b, c⟩ => ⟨p, acc, a, n, by rw [upd_ne n]; exact b, Paired.mapP c fun _ _ => TieAt.tmono (TupS.lst h)⟩
def spShort (K : PySem.W.Frag) : Sp := fun vs H Q _ => ∃ (q : Addr) (us : List V) (ts : List Tie) (N : Nat) (c : Int), vs = [.ref q, .int (N : Nat)] ∧ SqL K H q us ∧ Paired (TieAt K H) us ts ∧ ts.length ≤ 600000 ∧
  (∀ t ∈ ts, (0 ≤ t.1 ∧ t.1 < N) ∧ 0 ≤ t.2.1 ∧ t.2.1 < N) ∧ N ≤ 60 ∧ (∀ x : Int, 0 ≤ x → x < N → ∃ t ∈ ts, t.1 = x) ∧ 0 ≤ c ∧ c < N ∧
  (∀ S : Int → Prop, (∀ t ∈ ts, (t.1 = c ∨ S t.1) → S t.2.1) → S c) ∧ ∀ p H', Same H H' → Q (.ref p) H'
theorem ok_shortest_ring {f : Addr} {fd : FuncData} (F : Fun K "shortest_ring" "shortest_ring" s_shortest_ring f fd) (T : Facts K mg cC cE cR) (c1 : C8.Cal P w K mg base 2 "ring_by" (spRingBy K) []) : FnOk P w K mg base CX0 3 f fd ["ties", "many"] (spShort K) := by
  refine F.ok sc_shortest_ring (fun vs H Q E h => ?_) (fun cdv A outer s H vs Q E hr h => ?_)
  · obtain ⟨q, us, ts, N, c, rfl, _⟩ := h; rfl
  · obtain ⟨q, us, ts, N, c, rfl, hq, hus, hl, rng, hN, outg, c0, c1', reach, k⟩ := h
    have nd := sc_shortest_ring.nd
    refine ⟨_, pss_cons (ps_setLc (i := 2) (own := [("ring", 3)]) (g := gName 3) (tt := tTest (tOp (fun x y H Q => y = .non ∧ Q (.bl (!decide (x = .non))) H) (tVar 3) (tC .non))) (te := tVar 3) rfl nd rfl rfl (sw_true rfl rfl rfl (by decide +kernel))
          (pi_list (pe_lc (own := [("number", 4)]) (g := gName 4) (tt := tYes) (te := tCall (spRingBy K) [] C8.E0 (tCons (tVar 0) (tCons (tVar 4) tNil))) rfl nd (pi_range1 (by rfl) T.z_range (pa_cons (pv 1) pa_nil)) (blkOk_by (own := [("number", 4)]) (N := ["ties", "many", "rings", "ring", "number"]) (sc := defScope s_shortest_ring) (by decide +kernel))
            (fun _ _ _ _ _ => pg_name (i := 4) nd rfl (Or.inl rfl)) (fun _ _ _ _ _ => pts_nil) (fun _ _ _ _ _ => C8.pe_c c1 hr (by decide) rfl (pa_cons (pv 0) (pa_cons (pv 4) pa_nil)))))
          (blkOk_by (own := [("ring", 3)]) (N := ["ties", "many", "rings", "ring", "number"]) (sc := defScope s_shortest_ring) (by decide +kernel))
          (fun _ _ _ _ _ => pg_name (i := 3) nd rfl (Or.inl rfl)) (fun _ _ _ _ _ => pts_one (pt_cmpR op_notN (pv 3) pe_non (nomark _))) (fun _ _ _ _ _ => pv 3))
      (pss_cons (ps_if (pt_cmpR (op_eqD hr.units) (pv 2) (pe_lst pa_nil) (nomark _)) (pss_one (ps_ret pe_non)) pss_nil)
      (pss_one (ps_ret (pe_minLen (by rfl) T.z_min (by rfl) T.z_len (pv 2))))), ?_⟩
    refine ⟨_, rfl, _, rfl, by omega, by omega, fun D hD => lc_range (n := (N : Int).toNat) (fun i H' => Same H H' ∧ ∃ acc os, H' D = some (.lst acc) ∧ Paired (OptR K H' D) acc os ∧ acc.length = i ∧ ((i : Int) > c → ∃ tl, some tl ∈ os)) ⟨same_new hD, [], [], upd_same, .nil, rfl, fun h => by omega⟩ ?_ ?_⟩
    · rintro i H2 hi ⟨S2, acc, os, h2, hacc, hal, hin⟩
      refine ⟨rfl, yesT ⟨_, rfl, _, rfl, q, (0 : Int) + (i : Nat), us, ts, N, rfl, S2.seq hq, Paired.mapP hus fun _ _ => TieAt.mono S2, hl, rng, hN, outg, by omega, by omega, fun p H' ac tl S hp h' _ hac => ?_, fun H' S hno => ?_⟩⟩
      · have h3 := S _ _ h2
        have npD : p ≠ D := fun z => by rw [z, h2] at hp; cases hp
        refine ⟨acc, h3, small1000 (by omega), same_upd (S2.trans S) hD, acc ++ [.ref p], os ++ [some tl], upd_same, ?_, by simp [hal], fun _ => ⟨tl, List.mem_append_right _ List.mem_cons_self⟩⟩
        exact paired_snoc (Paired.mapP hacc fun _ _ h => OptR.app h3 (OptR.mono S h)) (OptR.app (o := some tl) h3 ⟨p, ac, rfl, npD, h', hac⟩)
      · have h3 := S _ _ h2
        refine ⟨acc, h3, small1000 (by omega), same_upd (S2.trans S) hD, acc ++ [.non], os ++ [none], upd_same, ?_, by simp [hal], fun hc => ?_⟩
        · exact paired_snoc (Paired.mapP hacc fun _ _ h => OptR.app h3 (OptR.mono S h)) rfl
        · obtain ⟨S0, hS1, hS2⟩ := hno
          have hci : (0 : Int) + (i : Nat) ≠ c := fun e => by rw [e] at hS1 hS2; exact hS2 (reach S0 hS1)
          obtain ⟨tl, htl⟩ := hin (by omega)
          exact ⟨tl, List.mem_append_left _ htl⟩
    rintro H2 ⟨S2, acc, os, h2, hacc, hal, hin⟩
    obtain ⟨tl0, htl0⟩ := hin (by omega)
    have hol := paired_len hacc
    refine ⟨D, rfl, ⟨acc, SqL.of h2⟩, fun D2 hD2 => lc_list (K := K) (a := D) (xs := acc) (fun i H' => Same H2 H' ∧ ∃ ac2 rs, H' D2 = some (.lst ac2) ∧ Paired (RingV K H2) ac2 rs ∧ ac2.length ≤ i ∧ ∀ tl, some tl ∈ os.take i → rs ≠ []) ⟨same_new hD2, [], [], upd_same, .nil, Nat.le_refl _, by simp⟩ (fun i H' _ ⟨S, _⟩ => S.seq (SqL.of h2)) ?_ ?_⟩
    · rintro i v H3 hv ⟨S3, ac2, rs, h3, hac2, l2, hne⟩
      have hi := (List.getElem?_eq_some_iff.mp hv).1
      obtain ⟨o, ho, hov⟩ := paired_get hacc hv
      have e1 : os.take (i + 1) = os.take i ++ [o] := by rw [List.take_add_one, ho]; rfl
      cases o with
      | none =>
        have hov : v = .non := hov
        subst hov
        refine ⟨rfl, _, rfl, rfl, false, rfl, iteF ⟨S3, ac2, rs, h3, hac2, by omega, fun tl htl => ?_⟩⟩
        rw [e1] at htl
        rcases List.mem_append.mp htl with z | z
        · exact hne tl z
        · simp at z
      | some tl =>
        obtain ⟨p, ac, rfl, np, hp, hac⟩ := hov
        refine ⟨rfl, _, rfl, rfl, true, rfl, iteT ⟨_, rfl, ac2, h3, small1000 (by omega), same_upd S3 hD2, ac2 ++ [.ref p], rs ++ [tl], upd_same, paired_snoc hac2 ⟨p, ac, rfl, hp, hac⟩, by simp; omega, fun _ _ => by simp⟩⟩
    rintro H3 ⟨S3, ac2, rs, h3, hac2, l2, hne⟩
    rw [hol, List.take_length] at hne
    have hrs := hne tl0 htl0
    have hac3 := Paired.mapP hac2 fun _ _ => RingV.mono S3
    have hrl := paired_len hac2
    refine ⟨_, rfl, Nat.zero_le _, fun e he => ⟨_, _, .lst ((same_new he).seq (SqL.of h3)) (rings_dp (Paired.mapP hac3 fun _ _ => RingV.mono (same_new he))), .lst (SqL.of upd_same) .nil, rings_shaped _, nil_shaped, ?_⟩⟩
    have Se := same_new (o := .lst []) he
    refine ⟨false, congrArg V.bl (eqv_nilD (by simpa using hrs)), iteF ?_⟩
    refine ⟨_, rfl, D2, ac2, rfl, SqL.of (Se _ _ h3), fun z => by rw [z] at hrl; exact hrs (List.length_eq_zero_iff.mp hrl.symm), fun y hy => ?_, fun y hy => ?_⟩
    · obtain ⟨j, hj, rfl⟩ := List.mem_iff_getElem.mp hy
      obtain ⟨tl, _, p, ac, e1, e2, _⟩ := paired_get hac3 (List.getElem?_eq_getElem hj)
      exact ⟨p, ac, e1, SqL.of (Se _ _ e2)⟩
    · obtain ⟨j, hj, rfl⟩ := List.mem_iff_getElem.mp hy
      obtain ⟨tl, _, p, ac, e1, e2, _⟩ := paired_get hac3 (List.getElem?_eq_getElem hj)
      rw [e1]
      exact k p _ ((S2.trans S3).trans Se)
def spRunTies (K : PySem.W.Frag) (cE cR : Addr) : Sp := fun vs H Q _ => ∃ (x dx a b c : Addr) (N B : Nat) (H0 : Hp) (L : Slot → Addr) (g : Slot → HO) (E : Eng), vs = [.ref x, .non] ∧ H x = some (.ins cR dx (runFs a b c (L .obj))) ∧ Rep K cE N B H0 H L g E ∧ B ≤ 2200 ∧ TiesF E ∧
  ∀ p H' acc ts, Same H H' → H' p = some (.lst acc) → Paired (TieAt K H') acc ts → (∀ t, t ∈ ts ↔ IsTie E t) → ts.length ≤ 600000 → Q (.ref p) H'
theorem ok_Run_ties {kws : List (Str × V)} {f : Addr} {fd : FuncData} (F : FunD K "ties" "Run.ties" (defArgs sRun_ties) (defBody sRun_ties) (defScope sRun_ties) [] kws f fd) (T : Facts K mg cC cE cR) (c1 : C8.Cal P w K mg base 2 "ties_of" (spTiesOf K cE) []) : FnOk P w K mg base CX0 3 f fd ["self", "kind"] (spRunTies K cE cR) := by
  refine F.ok sc_Run_ties (fun vs H Q E h => ?_) (fun cdv A outer s H vs Q E hr h => ?_)
  · obtain ⟨x, dx, a, b, c, N, B, H0, L, g, E, rfl, _⟩ := h; rfl
  · obtain ⟨x, dx, a, b, c, N, B, H0, L, g, E, rfl, hx, R, hB, TF, k⟩ := h
    have nd := sc_Run_ties.nd
    refine ⟨_, pss_cons (ps_if (PW.pt (pw_and (pt_cmpR op_notN (pv 1) pe_non (nomark _)) (pw_and1 pt_never))) (pss_one ps_never) pss_nil)
      (pss_one (ps_ret (pe_lc (own := [("tie", 2)]) (g := gName 2) (tt := tOr (tTest (tOp (fun x y H Q => y = .non ∧ Q (.bl (decide (x = .non))) H) (tVar 1) (tC .non))) (fun _ _ _ => False)) (te := tVar 2) rfl nd (pi_list (C8.pe_c c1 hr (by decide) rfl (pa_cons (pe_fld (pv 0) rfl) pa_nil))) (blkOk_by (own := [("tie", 2)]) (N := ["self", "kind", "tie"]) (sc := defScope sRun_ties) (by decide +kernel))
        (fun _ _ _ _ _ => pg_name (i := 2) nd rfl (Or.inl rfl)) (fun _ _ _ _ _ => pts_one (PW.pt (pw_or (pt_cmpR op_isN (pv 1) pe_non (nomark _)) (pw_or1 pt_never)))) (fun _ _ _ _ _ => pv 2)))), ?_⟩
    refine ⟨_, rfl, rfl, false, rfl, iteF (iteF ?_)⟩
    refine ⟨_, rfl, x, cR, dx, _, _, rfl, hx, T.clRun, T.nRun_engine, rfl, N, B, H0, L, g, E, rfl, R, hB, TF, fun p H1 acc ts S1 h1 hacc hts hl => ?_⟩
    have hal := paired_len hacc
    have big : (700000 : Nat) < sizeLine := by decide
    refine ⟨p, rfl, ⟨acc, SqL.of h1⟩, fun D hD => lc_list (K := K) (a := p) (xs := acc) (fun i H' => Same H1 H' ∧ H' D = some (.lst (acc.take i))) ⟨same_new hD, upd_same⟩ (fun i H' _ ⟨S, _⟩ => S.seq (SqL.of h1)) ?_ ?_⟩
    · rintro i v H2 hv ⟨S2, h2⟩
      refine ⟨rfl, _, rfl, rfl, true, rfl, iteT (iteT ⟨_, rfl, _, h2, by rw [List.length_take]; omega, same_upd S2 hD, ?_⟩)⟩
      rw [upd_same, List.take_add_one, hv]; rfl
    · rintro H2 ⟨S2, h2⟩
      rw [List.take_length] at h2
      exact k D H2 acc ts (S1.trans S2) h2 (Paired.mapP hacc fun _ _ => TieAt.mono S2) hts hl
def spRunRing (K : PySem.W.Frag) (cE cR : Addr) : Sp := fun vs H Q _ => ∃ (x dx a b c : Addr) (us : List V) (N B : Nat) (H0 : Hp) (L : Slot → Addr) (g : Slot → HO) (E : Eng) (st : Int), vs = [.ref x, .non] ∧ H x = some (.ins cR dx (runFs a b c (L .obj))) ∧ SqL K H a us ∧ us.length = N ∧ Rep K cE N B H0 H L g E ∧ B ≤ 2200 ∧ TiesF E ∧ N ≤ 60 ∧
  (∀ t, IsTie E t → (0 ≤ t.1 ∧ t.1 < N) ∧ 0 ≤ t.2.1 ∧ t.2.1 < N) ∧ (∀ x : Int, 0 ≤ x → x < N → ∃ t, IsTie E t ∧ t.1 = x) ∧ 0 ≤ st ∧ st < N ∧ (∀ S : Int → Prop, (∀ t, IsTie E t → (t.1 = st ∨ S t.1) → S t.2.1) → S st) ∧
  ∀ p H', Same H H' → Q (.ref p) H'
theorem ok_Run_ring {kws : List (Str × V)} {f : Addr} {fd : FuncData} (F : FunD K "ring" "Run.ring" (defArgs sRun_ring) (defBody sRun_ring) (defScope sRun_ring) [] kws f fd) (T : Facts K mg cC cE cR) (m1 : C8.Met P w K mg base 3 cR "ties" (spRunTies K cE cR) [.non]) (c1 : C8.Cal P w K mg base 3 "shortest_ring" (spShort K) []) : FnOk P w K mg base CX0 4 f fd ["self", "through"] (spRunRing K cE cR) := by
  refine F.ok sc_Run_ring (fun vs H Q E h => ?_) (fun cdv A outer s H vs Q E hr h => ?_)
  · obtain ⟨x, dx, a, b, c, us, N, B, H0, L, g, E, st, rfl, _⟩ := h; rfl
  · obtain ⟨x, dx, a, b, c, us, N, B, H0, L, g, E, st, rfl, hx, ha, hul, R, hB, TF, hN, rng, outg, st0, st1, reach, k⟩ := h
    have nd := sc_Run_ring.nd
    refine ⟨_, pss_cons (ps_set (i := 2) nd rfl (Or.inl rfl) (pe_callB call_len_seq (by rfl) T.z_len PySem.boot_len (pa_cons (pe_fld (pv 0) rfl) pa_nil)))
      (pss_cons (ps_if (pt_cmpR op_isN (pv 1) pe_non (nomark _)) (pss_one (ps_ret (C8.pe_c c1 hr (by decide) rfl (pa_cons (C8.pe_mt0 m1 hr (by decide) (pv 0)) (pa_cons (pv 2) pa_nil))))) pss_nil)
      (pss_cons ps_never (pss_one ps_never))), ?_⟩
    refine ⟨_, rfl, x, cR, dx, _, _, rfl, hx, T.clRun, T.nRun_dealings, rfl, a, us, rfl, .inl ha, ?_⟩
    refine ⟨_, rfl, rfl, true, rfl, iteT ?_⟩
    refine ⟨_, rfl, x, dx, _, rfl, hx, rfl, x, dx, a, b, c, N, B, H0, L, g, E, rfl, hx, R, hB, TF, fun p H1 acc ts S1 h1 hacc hts hl => ?_⟩
    refine ⟨_, rfl, p, acc, ts, N, st, by rw [hul]; rfl, SqL.of h1, hacc, hl, fun t ht => rng t ((hts t).mp ht), hN, fun x x0 x1 => ?_, st0, st1, fun S hS => reach S fun t ht => hS t ((hts t).mpr ht), fun p' H' S' => k p' H' (S1.trans S')⟩
    obtain ⟨t, ht, e⟩ := outg x x0 x1
    exact ⟨t, (hts t).mpr ht, e⟩
end
end K60

set_option Elab.async false
set_option linter.all false
set_option maxRecDepth 100000
set_option maxHeartbeats 8000000
/-! K61I: the law's own draws. -/
namespace K60
open PySem L2 PySem.Spec
section
variable {P : Program} {w : World} {K : PySem.W.Frag} {mg : Str → Option Value} {base : Heap} {cC cE cR : Addr}
def spCellAt (K : PySem.W.Frag) : Sp := fun vs H Q _ => ∃ (p : Addr) (k : Nat) (ns : List Int), vs = [.ref p, .int (k : Nat)] ∧ SqL K H p (ns.map V.int) ∧ ∀ z, Q (.int z) H
theorem ok_law_cell_at {f : Addr} {fd : FuncData} (F : Fun K "_law_cell_at" "_law_cell_at" s_law_cell_at f fd) (T : Facts K mg cC cE cR) : FnOk P w K mg base CX0 1 f fd ["_law_script", "_law_k"] (spCellAt K) := by
  refine F.ok sc_law_cell_at (fun vs H Q E h => ?_) (fun cdv A outer s H vs Q E hr h => ?_)
  · obtain ⟨p, k, ns, rfl, _⟩ := h; rfl
  · obtain ⟨p, k, ns, rfl, hp, q⟩ := h
    refine ⟨_, pss_cons (ps_if (pt_cmpR op_lt (pv 1) (pe_callB call_len_seq (by rfl) T.z_len PySem.boot_len (pa_cons (pv 0) pa_nil)) (nomark _)) (pss_one (ps_ret (pe_ix ix_list (pv 0) (pv 1) (fun _ _ => rfl)))) pss_nil) (pss_one (ps_ret pe_int)), ?_⟩
    refine ⟨_, rfl, _, rfl, p, _, rfl, .inl hp, _, _, rfl, rfl, _, rfl, ?_⟩
    rw [List.length_map]
    by_cases c : k < ns.length
    · rw [decide_eq_true (show ((k : Nat) : Int) < (ns.length : Nat) by omega)]
      refine iteT ⟨_, rfl, _, rfl, p, _, _, _, rfl, rfl, hp, atI_nat (v := V.int ns[k]) (by rw [List.getElem?_map, List.getElem?_eq_getElem c]; rfl), q _⟩
    · rw [decide_eq_false (show ¬ ((k : Nat) : Int) < (ns.length : Nat) by omega)]
      exact iteF (q 0)
def StOk (H : Hp) (s : Addr) : Prop := (∃ c, H s = some (.lst [.int c])) ∨ ∃ x y z, H s = some (.lst [.int x, .int y, .int z])
def Fr (s : Addr) (H H' : Hp) : Prop := ∀ a o, H a = some o → a ≠ s → H' a = some o
theorem Fr.of {s : Addr} {H H' : Hp} (S : Same H H') : Fr s H H' := fun a o h _ => S a o h
theorem Fr.trans {s : Addr} {H H1 H2 : Hp} (a : Fr s H H1) (b : Fr s H1 H2) : Fr s H H2 := fun c o h n => b c o (a c o h n) n
theorem Fr.upd {s : Addr} {H H1 : Hp} (a : Fr s H H1) (o : HO) : Fr s H (upd H1 s o) := fun c u h n => by rw [upd_ne n]; exact a c u h n
theorem StOk.lst {H : Hp} {s : Addr} (h : StOk H s) : ∃ xs, H s = some (.lst xs) := by
  rcases h with ⟨_, h⟩ | ⟨_, _, _, h⟩ <;> exact ⟨_, h⟩
theorem Fr.tup {s : Addr} {H H' : Hp} (f : Fr s H H') (h : StOk H s) : TupS H H' := by
  obtain ⟨xs, h⟩ := h.lst
  exact ⟨fun b ys hb => f b _ hb (fun z => by rw [z, h] at hb; cases hb), fun b o u hb => f b _ hb (fun z => by rw [z, h] at hb; cases hb)⟩
theorem Fr.new {s p : Addr} {H H' : Hp} (f : Fr s H H') (h : StOk H s) (hp : H' p = none) (hs : StOk H' s) : H p = none := by
  cases e : H p with
  | none => rfl
  | some o =>
    by_cases c : p = s
    · obtain ⟨xs, hs⟩ := hs.lst
      rw [← c, hp] at hs; cases hs
    · rw [f p o e c] at hp; cases hp
def spDigit : Sp := fun vs H Q _ => ∃ (s : Addr) (b : Int), vs = [.ref s, .int b] ∧ 0 < b ∧ b ≤ 100 ∧ StOk H s ∧ ∀ d H', 0 ≤ d → d < b → Fr s H H' → StOk H' s → Q (.int d) H'
theorem ok_law_digit {f : Addr} {fd : FuncData} (F : Fun K "_law_digit" "_law_digit" s_law_digit f fd) (T : Facts K mg cC cE cR) : FnOk P w K mg base CX0 1 f fd ["_law_state", "_law_base"] spDigit := by
  refine F.ok sc_law_digit (fun vs H Q E h => ?_) (fun cdv A outer sh H vs Q E hr h => ?_)
  · obtain ⟨s, b, rfl, _⟩ := h; rfl
  · obtain ⟨s, b, rfl, b0, b1, hs, k⟩ := h
    have nd := sc_law_digit.nd
    refine ⟨_, pss_cons (ps_if (pt_cmpR op_eq (pe_callB call_len_seq (by rfl) T.z_len PySem.boot_len (pa_cons (pv 0) pa_nil)) pe_int (nomark _))
        (pss_cons (ps_set (i := 2) nd rfl (Or.inl rfl) (pe_ix ix_list (pv 0) pe_int (fun _ _ => rfl)))
        (pss_cons (ps_asg (pe_ix ix_list (pe_lst (pa_cons pe_int (pa_cons (pv 2) pa_nil))) (pe_callTy call_int1 (by rfl) T.z_int (by decide +kernel) (pa_cons (pe_cmpR op_ge (pv 2) (pe_op op_pow pe_int pe_int) (nomark _)) pa_nil)) (fun _ _ => rfl)) (pg_sub (pv 0) pe_int set_list))
        (pss_one (ps_expr (pe_bm PySem.F.plainAttrs_list PySem.F.slot_list_extend PySem.F.type_list_extend mt_extend (pv 0) (pa_cons (pe_lst (pa_cons (pe_op op_mod (pv 2) pe_int) (pa_cons pe_int pa_nil))) pa_nil)))))) pss_nil)
      (pss_cons (ps_if (pt_cmpR op_gt (pe_ix ix_list (pv 0) pe_int (fun _ _ => rfl)) pe_int (nomark _))
        (pss_cons (ps_set (i := 3) nd rfl (Or.inl rfl) (pe_op op_mod (pe_ix ix_list (pv 0) pe_int (fun _ _ => rfl)) (pv 1)))
        (pss_cons (ps_asg (pe_op op_fdiv (pe_ix ix_list (pv 0) pe_int (fun _ _ => rfl)) (pv 1)) (pg_sub (pv 0) pe_int set_list))
        (pss_one (ps_ret (pv 3))))) pss_nil)
      (pss_cons (ps_asg (pe_op op_add (pe_ix ix_list (pv 0) pe_int (fun _ _ => rfl)) pe_int) (pg_sub (pv 0) pe_int set_list))
      (pss_cons (ps_set (i := 4) nd rfl (Or.inl rfl) (pe_op op_mod (pe_op op_mul (pe_op op_add (pe_op op_add (pe_ix ix_list (pv 0) pe_int (fun _ _ => rfl)) (pe_op op_mul pe_int (pe_ix ix_list (pv 0) pe_int (fun _ _ => rfl)))) pe_int) pe_int) pe_int))
      (pss_cons (ps_set (i := 4) nd rfl (Or.inl rfl) (pe_op op_mod (pe_op op_mul (pv 4) (pe_op op_add (pe_op op_fdiv (pv 4) pe_int) pe_int)) pe_int))
      (pss_one (ps_ret (pe_op op_mod (pe_op op_mod (pe_op op_mul (pv 4) (pe_op op_add (pe_op op_fdiv (pv 4) pe_int) pe_int)) pe_int) (pv 1)))))))), ?_⟩
    rcases id hs with ⟨cc, hs0⟩ | ⟨x, y, z, hs0⟩
    · refine ⟨_, rfl, s, _, rfl, .inl (SqL.of hs0), rfl, true, rfl, iteT ?_⟩
      refine ⟨_, rfl, s, _, _, _, rfl, rfl, SqL.of hs0, atI_nat (j := 0) rfl, ?_⟩
      refine ⟨_, rfl, Nat.le_of_ble_eq_true rfl, fun p hp => ?_⟩
      refine ⟨_, rfl, _, _, rfl, rfl, ⟨by decide, by decide, by decide⟩, _, _, rfl, rfl, .inr ⟨_, rfl, ?_⟩⟩
      obtain ⟨x, hx⟩ : ∃ x : Int, ∀ kk : Bool, kk = decide ((10 : Int) ^ (18 : Int).toNat ≤ cc) → atI [V.int 0, V.int cc] (if kk then 1 else 0) = some (.int x) := by
        cases hk : decide ((10 : Int) ^ (18 : Int).toNat ≤ cc) with
        | true => exact ⟨cc, fun kk e => by rw [e]; rfl⟩
        | false => exact ⟨0, fun kk e => by rw [e]; rfl⟩
      refine ⟨p, _, _, _, rfl, rfl, SqL.of upd_same, hx _ rfl, ?_⟩
      have Sp := same_new (o := .lst [.int 0, .int cc]) hp
      have nps : s ≠ p := fun z => by rw [z, hp] at hs0; cases hs0
      refine ⟨_, rfl, s, _, 0, 0, rfl, rfl, Sp _ _ hs0, rfl, ?_⟩
      have hsa : (upd (upd H p (.lst [.int 0, .int cc])) s (.lst ([V.int cc].set 0 (V.int x)))) s = some (.lst [.int x]) := upd_same
      have fa : Fr s H (upd (upd H p (.lst [.int 0, .int cc])) s (.lst ([V.int cc].set 0 (V.int x)))) := (Fr.of Sp).upd _
      generalize (upd (upd H p (.lst [.int 0, .int cc])) s (.lst ([V.int cc].set 0 (V.int x)))) = Ha at hsa fa ⊢
      refine ⟨_, rfl, .inl ⟨rfl, _, SqL.of hsa⟩, _, rfl, _, _, rfl, rfl, (show (0 : Int) < _ by decide), Nat.le_of_ble_eq_true rfl, fun q hq => ?_⟩
      have Sq := same_new (o := .lst [.int (cc % 2147483647), .int 0]) hq
      refine ⟨s, q, _, _, rfl, rfl, Sq _ _ hsa, upd_same, Nat.le_of_ble_eq_true rfl, ?_⟩
      have hs1 : (upd (upd Ha q (.lst [.int (cc % 2147483647), .int 0])) s (.lst ([V.int x] ++ [.int (cc % 2147483647), .int 0]))) s = some (.lst [.int x, .int (cc % 2147483647), .int 0]) := upd_same
      have f1 : Fr s H (upd (upd Ha q (.lst [.int (cc % 2147483647), .int 0])) s (.lst ([V.int x] ++ [.int (cc % 2147483647), .int 0]))) := (fa.trans (Fr.of Sq)).upd _
      generalize (upd (upd Ha q (.lst [.int (cc % 2147483647), .int 0])) s (.lst ([V.int x] ++ [.int (cc % 2147483647), .int 0]))) = H1 at hs1 f1 ⊢
      generalize cc % 2147483647 = y at hs1 ⊢
      have i0 : ∀ (a b c : V), ixN [a, b, c].length 0 = some 0 := fun _ _ _ => rfl
      have i2 : ∀ (a b c : V), ixN [a, b, c].length 2 = some 2 := fun _ _ _ => rfl
      refine ⟨_, rfl, s, _, _, _, rfl, rfl, SqL.of hs1, atI_nat (j := 0) rfl, _, _, rfl, rfl, _, rfl, ?_⟩
      by_cases c : 0 < x
      · rw [decide_eq_true c]
        refine iteT ⟨_, rfl, s, _, _, _, rfl, rfl, SqL.of hs1, atI_nat (j := 0) rfl, _, rfl, _, _, rfl, rfl, b0, ?_⟩
        refine ⟨_, rfl, s, _, _, _, rfl, rfl, SqL.of hs1, atI_nat (j := 0) rfl, _, rfl, _, _, rfl, rfl, ⟨b0, by omega⟩, ?_⟩
        refine ⟨_, rfl, s, _, 0, 0, rfl, rfl, hs1, i0 _ _ _, ?_⟩
        exact ⟨_, rfl, k (x % b) _ (Int.emod_nonneg _ (by omega)) (Int.emod_lt_of_pos _ b0) (f1.upd _) (.inr ⟨_, _, _, upd_same⟩)⟩
      · rw [decide_eq_false c]
        refine iteF ⟨_, rfl, s, _, _, _, rfl, rfl, SqL.of hs1, atI_nat (j := 2) rfl, _, _, rfl, rfl, ?_⟩
        refine ⟨_, rfl, s, _, 2, 2, rfl, rfl, hs1, i2 _ _ _, ?_⟩
        have hs2 : (upd H1 s (.lst ([V.int x, V.int y, V.int 0].set 2 (V.int (0 + 1))))) s = some (.lst [.int x, .int y, .int (0 + 1)]) := upd_same
        have f2 : Fr s H (upd H1 s (.lst ([V.int x, V.int y, V.int 0].set 2 (V.int (0 + 1))))) := f1.upd _
        generalize (upd H1 s (.lst ([V.int x, V.int y, V.int 0].set 2 (V.int (0 + 1))))) = H2 at hs2 f2 ⊢
        refine ⟨_, rfl, s, _, _, _, rfl, rfl, SqL.of hs2, atI_nat (j := 1) rfl, _, rfl, s, _, _, _, rfl, rfl, SqL.of hs2, atI_nat (j := 2) rfl, _, _, rfl, rfl, .inl ⟨by decide, by decide⟩, _, _, rfl, rfl, _, _, rfl, rfl, _, _, rfl, rfl, .inr ⟨by decide, by decide⟩, _, _, rfl, rfl, (show (0 : Int) < _ by decide), ?_⟩
        have n1 : 0 ≤ ((y + 7919 * (0 + 1) + 1) * 48271) % 2147483647 := Int.emod_nonneg _ (by omega)
        have n2 : ((y + 7919 * (0 + 1) + 1) * 48271) % 2147483647 < 2147483647 := Int.emod_lt_of_pos _ (by omega)
        generalize ((y + 7919 * (0 + 1) + 1) * 48271) % 2147483647 = m1 at n1 n2 ⊢
        refine ⟨_, rfl, _, rfl, _, _, rfl, rfl, ⟨by decide, by decide⟩, _, _, rfl, rfl, _, _, rfl, rfl, .inl ⟨by omega, by omega⟩, _, _, rfl, rfl, (show (0 : Int) < _ by decide), ?_⟩
        have n3 : 0 ≤ (m1 * (m1 / 1009 + 69621)) % 2147483647 := Int.emod_nonneg _ (by omega)
        have n4 : (m1 * (m1 / 1009 + 69621)) % 2147483647 < 2147483647 := Int.emod_lt_of_pos _ (by omega)
        generalize (m1 * (m1 / 1009 + 69621)) % 2147483647 = m2 at n3 n4 ⊢
        refine ⟨_, rfl, _, rfl, _, _, rfl, rfl, ⟨by decide, by decide⟩, _, _, rfl, rfl, _, _, rfl, rfl, .inl ⟨by omega, by omega⟩, _, _, rfl, rfl, (show (0 : Int) < _ by decide), _, rfl, _, _, rfl, rfl, b0, ?_⟩
        exact k _ _ (Int.emod_nonneg _ (by omega)) (Int.emod_lt_of_pos _ b0) f2 (.inr ⟨_, _, _, hs2⟩)
    · refine ⟨_, rfl, s, _, rfl, .inl (SqL.of hs0), rfl, false, rfl, iteF ?_⟩
      have hs1 := hs0
      have f1 : Fr s H H := Fr.of (Same.refl H)
      obtain ⟨H1, hH1⟩ : ∃ H1, H1 = H := ⟨H, rfl⟩
      rw [← hH1] at hs1
      have f1 : Fr s H H1 := by rw [hH1]; exact f1
      rw [← hH1]
      have i0 : ∀ (a b c : V), ixN [a, b, c].length 0 = some 0 := fun _ _ _ => rfl
      have i2 : ∀ (a b c : V), ixN [a, b, c].length 2 = some 2 := fun _ _ _ => rfl
      refine ⟨_, rfl, s, _, _, _, rfl, rfl, SqL.of hs1, atI_nat (j := 0) rfl, _, _, rfl, rfl, _, rfl, ?_⟩
      by_cases c : 0 < x
      · rw [decide_eq_true c]
        refine iteT ⟨_, rfl, s, _, _, _, rfl, rfl, SqL.of hs1, atI_nat (j := 0) rfl, _, rfl, _, _, rfl, rfl, b0, ?_⟩
        refine ⟨_, rfl, s, _, _, _, rfl, rfl, SqL.of hs1, atI_nat (j := 0) rfl, _, rfl, _, _, rfl, rfl, ⟨b0, by omega⟩, ?_⟩
        refine ⟨_, rfl, s, _, 0, 0, rfl, rfl, hs1, i0 _ _ _, ?_⟩
        exact ⟨_, rfl, k (x % b) _ (Int.emod_nonneg _ (by omega)) (Int.emod_lt_of_pos _ b0) (f1.upd _) (.inr ⟨_, _, _, upd_same⟩)⟩
      · rw [decide_eq_false c]
        refine iteF ⟨_, rfl, s, _, _, _, rfl, rfl, SqL.of hs1, atI_nat (j := 2) rfl, _, _, rfl, rfl, ?_⟩
        refine ⟨_, rfl, s, _, 2, 2, rfl, rfl, hs1, i2 _ _ _, ?_⟩
        have hs2 : (upd H1 s (.lst ([V.int x, V.int y, V.int z].set 2 (V.int (z + 1))))) s = some (.lst [.int x, .int y, .int (z + 1)]) := upd_same
        have f2 : Fr s H (upd H1 s (.lst ([V.int x, V.int y, V.int z].set 2 (V.int (z + 1))))) := f1.upd _
        generalize (upd H1 s (.lst ([V.int x, V.int y, V.int z].set 2 (V.int (z + 1))))) = H2 at hs2 f2 ⊢
        refine ⟨_, rfl, s, _, _, _, rfl, rfl, SqL.of hs2, atI_nat (j := 1) rfl, _, rfl, s, _, _, _, rfl, rfl, SqL.of hs2, atI_nat (j := 2) rfl, _, _, rfl, rfl, .inl ⟨by decide, by decide⟩, _, _, rfl, rfl, _, _, rfl, rfl, _, _, rfl, rfl, .inr ⟨by decide, by decide⟩, _, _, rfl, rfl, (show (0 : Int) < _ by decide), ?_⟩
        have n1 : 0 ≤ ((y + 7919 * (z + 1) + 1) * 48271) % 2147483647 := Int.emod_nonneg _ (by omega)
        have n2 : ((y + 7919 * (z + 1) + 1) * 48271) % 2147483647 < 2147483647 := Int.emod_lt_of_pos _ (by omega)
        generalize ((y + 7919 * (z + 1) + 1) * 48271) % 2147483647 = m1 at n1 n2 ⊢
        refine ⟨_, rfl, _, rfl, _, _, rfl, rfl, ⟨by decide, by decide⟩, _, _, rfl, rfl, _, _, rfl, rfl, .inl ⟨by omega, by omega⟩, _, _, rfl, rfl, (show (0 : Int) < _ by decide), ?_⟩
        have n3 : 0 ≤ (m1 * (m1 / 1009 + 69621)) % 2147483647 := Int.emod_nonneg _ (by omega)
        have n4 : (m1 * (m1 / 1009 + 69621)) % 2147483647 < 2147483647 := Int.emod_lt_of_pos _ (by omega)
        generalize (m1 * (m1 / 1009 + 69621)) % 2147483647 = m2 at n3 n4 ⊢
        refine ⟨_, rfl, _, rfl, _, _, rfl, rfl, ⟨by decide, by decide⟩, _, _, rfl, rfl, _, _, rfl, rfl, .inl ⟨by omega, by omega⟩, _, _, rfl, rfl, (show (0 : Int) < _ by decide), _, rfl, _, _, rfl, rfl, b0, ?_⟩
        exact k _ _ (Int.emod_nonneg _ (by omega)) (Int.emod_lt_of_pos _ b0) f2 (.inr ⟨_, _, _, hs2⟩)
end
end K60

set_option Elab.async false
set_option linter.all false
set_option maxRecDepth 100000
set_option maxHeartbeats 8000000
/-! K61J: dealings that the law makes. -/
namespace K60
open PySem L2 PySem.Spec
def otherD (k : Nat) (last a b c w : Bool) : Deal :=
  [(true, 10 + (k : Int))] ++ [if k = 0 then (true, 0) else (false, 9 + (k : Int))] ++ (if a = true then [(true, 2)] else []) ++ (if (last || b) = true then [(false, 1)] else []) ++ (if c = true then [(w, 30 + (k : Int))] else [])
theorem RowOk.perm {i n : Nat} {d e : Deal} (h : RowOk i n d) (p : e.Perm d) : RowOk i n e :=
  ⟨p.nodup_iff.mpr h.nd, by rw [p.length_eq]; exact h.len1, by rw [p.length_eq]; exact h.len, p.mem_iff.mpr h.own, fun x => p.mem_iff.mpr (h.first x), fun x => p.mem_iff.mpr (h.link x), fun x => p.mem_iff.mpr (h.last x), fun b x => h.wr b (p.mem_iff.mp x), fun b x => h.rd b (p.mem_iff.mp x), (p.map _).nodup_iff.mpr h.box⟩
theorem nodup_of_map {α β : Type} (f : α → β) : ∀ {l : List α}, (l.map f).Nodup → l.Nodup
  | [], _ => List.nodup_nil
  | x :: l, h => by
    rw [List.map_cons, List.nodup_cons] at h
    rw [List.nodup_cons]
    exact ⟨fun hx => h.1 (List.mem_map.mpr ⟨x, hx, rfl⟩), nodup_of_map f h.2⟩
theorem otherD_ok {k n : Nat} (hk : k < n) (hn : n ≤ 6) (a b c w : Bool) : RowOk k n (otherD k (decide ((k : Int) = (n : Int) - 1)) a b c w) := by
  have hbox : ((otherD k (decide ((k : Int) = (n : Int) - 1)) a b c w).map (·.2)).Nodup := by
    unfold otherD
    by_cases k0 : k = 0
    · subst k0
      cases a <;> cases b <;> cases c <;> cases w <;> (cases (decide (((0 : Nat) : Int) = (n : Int) - 1)) <;> decide)
    · have : k = 1 ∨ k = 2 ∨ k = 3 ∨ k = 4 ∨ k = 5 := by omega
      rcases this with e | e | e | e | e <;> subst e <;> (cases a <;> cases b <;> cases c <;> cases w <;> (first | (cases (decide ((_ : Int) = (n : Int) - 1)) <;> decide) | skip))
  refine ⟨nodup_of_map _ hbox, ?_, ?_, ?_, ?_, ?_, ?_, ?_, ?_, hbox⟩
  · simp [otherD]
  · unfold otherD
    simp only [List.length_append, List.length_cons, List.length_nil]
    have h1 : (if a = true then [((true, 2) : Stp)] else []).length ≤ 1 := by cases a <;> decide
    have h2 : (if (decide ((k : Int) = (n : Int) - 1) || b) = true then [((false, 1) : Stp)] else []).length ≤ 1 := by split <;> decide
    have h3 : (if c = true then [((w, 30 + (k : Int)) : Stp)] else []).length ≤ 1 := by split <;> simp
    omega
  · simp [otherD]
  · intro e; simp [otherD, e]
  · intro e
    have : k ≠ 0 := by omega
    simp [otherD, this]
  · intro e
    have : (k : Int) = (n : Int) - 1 := by omega
    simp [otherD, this]
  · intro x hx
    unfold otherD at hx
    simp only [List.mem_append] at hx
    rcases hx with (((h | h) | h) | h) | h
    · simp at h; exact .inl h
    · split at h
      · simp at h; exact .inr (.inl ⟨h, by assumption⟩)
      · simp at h
    · split at h
      · simp at h; exact .inr (.inr (.inl h))
      · cases h
    · split at h
      · simp at h
      · cases h
    · split at h
      · simp at h; exact .inr (.inr (.inr h.2))
      · cases h
  · intro x hx
    unfold otherD at hx
    simp only [List.mem_append] at hx
    rcases hx with (((h | h) | h) | h) | h
    · simp at h
    · split at h
      · simp at h
      · simp at h; exact .inl ⟨h, by omega⟩
    · split at h
      · simp at h
      · cases h
    · split at h
      · simp at h; exact .inr (.inl h)
      · cases h
    · split at h
      · simp at h; exact .inr (.inr h.2)
      · cases h
theorem paired_erase {α β : Type} {F : α → β → Prop} : ∀ {l : List α} {m : List β} (i : Nat), Paired F l m → Paired F (l.eraseIdx i) (m.eraseIdx i)
  | _, _, _, .nil => .nil
  | _, _, 0, .cons _ t => t
  | _, _, i + 1, .cons r t => .cons r (paired_erase i t)
theorem erase_perm {α : Type} : ∀ {l : List α} {i : Nat} {t : α}, l[i]? = some t → (t :: l.eraseIdx i).Perm l
  | [], _, _, h => by simp at h
  | x :: l, 0, t, h => by simp at h; subst h; exact List.Perm.refl _
  | x :: l, i + 1, t, h => by
    have ih := erase_perm (l := l) (i := i) (t := t) (by simpa using h)
    exact (List.Perm.swap x t _).trans (ih.cons x)
/-! ### tuple(xs), the tuple known to the object; its methods -/
def TupD (H : Hp) (p : Addr) : Prop := ∃ (o : Obj) (xs : List V), H p = some (.frz o (.tup xs)) ∧ o.dict = none
theorem TupD.mono {H H' : Hp} {p : Addr} (w : TupS H H') : TupD H p → TupD H' p := fun ⟨o, xs, h, d⟩ => ⟨o, xs, w.2 _ _ _ h, d⟩
def rTupF (K : PySem.W.Frag) : List V → Hp → VK → Prop := fun xs H Q => ∃ (p : Addr) (ys : List V), xs = [.ref p] ∧ SqL K H p ys ∧ ∀ (l : Addr) (o : Obj), o.dict = none → H l = none → Q (.ref l) (upd H l (.frz o (.tup ys)))
theorem call_tuple_frz {X : Cx} : CallR X (.type "tuple") (rTupF X.K) := by
  intro pins s σ H xs us Q I r h
  obtain ⟨p, ys, rfl, hq, q⟩ := h
  obtain ⟨u, rfl, rx⟩ := vals1 r
  obtain rfl : u = Value.ref p := rx
  obtain ⟨its, rv, hL, hz⟩ := I.list hq
  have hn := rv.length
  refine call_tuple_list hL.isList (fun h1 kp => ?_) (by simp only [List.size_toArray] <;> omega)
  have I1 : Inv X pins σ H { s with heap := h1 } := I.kept (t' := s.toks) kp
  have nw : (h1.push { cls := .type "tuple", data := .seq its.toArray }).get? h1.objs.size = some { cls := .type "tuple", data := .seq its.toArray } := Heap.get?_push_size _ rfl
  refine ⟨.ref h1.objs.size, _, I1.laid (a := h1.objs.size) (o := .frz { cls := .type "tuple", data := .seq its.toArray } (.tup ys)) (t' := s.toks) (fun b o e => Heap.get?_push_of_some _ e) (Nat.le_refl _) ⟨nw, hz, its, rv, _, nw, rfl, _, rfl⟩, rfl, q _ _ rfl (I1.hok.fresh (Nat.le_refl _))⟩
def tTupM (r : V → List V → Hp → VK → Prop) (to : TE) (t : TA) : TE := fun σ H Q => to σ H fun x H1 => (∃ p, x = .ref p ∧ TupD H1 p) ∧ t σ H1 fun xs H2 => r x xs H2 Q
theorem pe_tupM {X : Cx} {o e : Expr} {es : List Expr} {to : TE} {t : TA} {name : Str} {apos cpos : Pos} {id : String} {r : V → List V → Hp → VK → Prop} (pa : PySem.PlainAttrs "tuple") (slot : PySem.Slot "tuple" name id) (hty : typeOf (.builtin id) = pure (.type "method_descriptor")) (hm : MtR X id r) (ho : PE X o to) (ha : PA X (e :: es) t)
    (hbase : attributeBase o name X.env (eval o X.env) = eval o X.env := by rfl)
    (hfew : ((backTo cpos (starEach (e :: es) X.env)).all (fun x => !x.1) && (backToKw cpos (keywordEach [] X.env)).all (fun x => x.1.isSome)
      && decide ((e :: es).length + ([] : List Keyword).length + (if ([] : List Keyword).isEmpty then 0 else 1) < 30)) = true := by rfl)
    (hline : (apos.endLine == cpos.line) = true := by rfl) (hs : starEach (e :: es) X.env = (false, eval e X.env) :: starEach es X.env := by rfl) (hplain : (backTo cpos (starEach es X.env)).any (·.1) = false := by rfl) :
    PE X (.Call (.Attribute o name apos) (e :: es) [] cpos) (tTupM r to t) := by
  refine ⟨fun pins s σ H Q I h => ?_⟩
  refine wpAny_Call_method_late hbase hfew hline rfl (thn (ho.run pins s σ H _ I h) fun v s1 ⟨x, H1, I1, r1, ⟨p, ex, ot, xs, hp, hd⟩, q1⟩ => ?_)
  subst ex
  obtain rfl : v = Value.ref p := r1
  obtain ⟨e1, _, its, _, o2, e2, hc, _⟩ := I1.hok p _ hp
  have eo : o2 = ot := by rw [e1] at e2; exact (Option.some.inj e2).symm
  subst eo
  refine ⟨"tuple", id, pa, slot, hty, ⟨_, e1, hc⟩, fun a ea => by cases ea; exact ⟨_, e1, hd⟩, ?_⟩
  have hA := ha.run cpos pins s1 σ H1 _ I1 q1
  rw [hs] at hA ⊢
  refine Calls.callWith_builtin (by show (false || (backTo cpos (starEach es X.env)).any (·.1)) = false; rw [hplain] <;> rfl) (Calls.evalArgs_plain ?_)
  exact thn hA fun us s2 ⟨vs, H2, I2, r2, q2⟩ => hm pins s2 σ H2 (V.ref p) vs (Value.ref p) us Q I2 rfl r2 q2
section
variable {P : Program} {w : World} {K : PySem.W.Frag} {mg : Str → Option Value} {base : Heap} {cC cE cR : Addr}
def spTurned (K : PySem.W.Frag) : Sp := fun vs H Q _ => ∃ (s q : Addr) (us : List V) (d : Deal), vs = [.ref s, .ref q] ∧ StOk H s ∧ SqL K H q us ∧ Paired (StepAt K H) us d ∧ d.length ≤ 8 ∧
  ∀ p d' H', Fr s H H' → StOk H' s → DealAt K H' (.ref p) d' → d'.Perm d → TupD H' p → Q (.ref p) H'
theorem ok_law_turned {f : Addr} {fd : FuncData} (F : Fun K "_law_turned" "_law_turned" s_law_turned f fd) (T : Facts K mg cC cE cR) (c1 : C8.Cal P w K mg base 1 "_law_digit" spDigit []) : FnOk P w K mg base CX0 2 f fd ["_law_state", "_law_steps"] (spTurned K) := by
  refine F.ok sc_law_turned (fun vs H Q E h => ?_) (fun cdv A outer sh H vs Q E hr h => ?_)
  · obtain ⟨s, q, us, d, rfl, _⟩ := h; rfl
  · obtain ⟨s, q, us, d, rfl, hs, hq, hus, hd8, k⟩ := h
    have nd := sc_law_turned.nd
    refine ⟨_, pss_cons (ps_set (i := 2) nd rfl (Or.inl rfl) (pe_callTy call_list_of (by rfl) T.z_list (by decide +kernel) (pa_cons (pv 1) pa_nil)))
      (pss_cons (ps_set (i := 3) nd rfl (Or.inl rfl) (pe_lst pa_nil))
      (pss_cons (ps_while PassesOwn.never (pt_cmpR (op_neD hr.units) (pv 2) (pe_lst pa_nil) (nomark _))
        (pss_one (ps_expr (pe_bm PySem.F.plainAttrs_list PySem.F.slot_list_append PySem.F.type_list_append mt_append (pv 3) (pa_cons
          (pe_bm PySem.F.plainAttrs_list PySem.F.slot_list_pop PySem.F.type_list_pop mt_popAt (pv 2) (pa_cons (C8.pe_c c1 hr (by decide) rfl (pa_cons (pv 0) (pa_cons (pe_callB call_len_seq (by rfl) T.z_len PySem.boot_len (pa_cons (pv 2) pa_nil)) pa_nil))) pa_nil)) pa_nil)))))
      (pss_one (ps_ret (pe_callTy call_tuple_frz (by rfl) T.z_tuple (by decide +kernel) (pa_cons (pv 3) pa_nil)))))), ?_⟩
    obtain ⟨sl0, hs0⟩ := hs.lst
    have hul := paired_len hus
    refine ⟨_, rfl, q, us, rfl, .inl hq, fun l hl => ?_⟩
    have Sl := same_new (o := .lst us) hl
    have nsl : s ≠ l := fun z => by rw [z, hl] at hs0; cases hs0
    refine ⟨Nat.zero_le _, fun ff hff => ?_⟩
    have Sf := same_new (o := .lst []) hff
    have nlf : l ≠ ff := fun z => by rw [← z, upd_same] at hff; cases hff
    have nsf : s ≠ ff := fun z => by rw [← z, Sl _ _ hs0] at hff; cases hff
    have St0 : StOk (upd (upd H l (.lst us)) ff (.lst [])) s := by
      rcases hs with ⟨c, h⟩ | ⟨x, y, z, h⟩
      · exact .inl ⟨c, Sf _ _ (Sl _ _ h)⟩
      · exact .inr ⟨x, y, z, Sf _ _ (Sl _ _ h)⟩
    let WW : Nat → List (Option V) → Hp → Prop := fun m σ H' => ∃ (lv fv : List V) (ld fdd : Deal), σ = [some (.ref s), some (.ref q), some (.ref l), some (.ref ff)] ∧ Fr s H H' ∧ StOk H' s ∧ H' l = some (.lst lv) ∧ H' ff = some (.lst fv) ∧
      Paired (StepAt K H') lv ld ∧ Paired (StepAt K H') fv fdd ∧ (fdd ++ ld).Perm d ∧ m = lv.length
    refine ⟨WW, ⟨_, us, [], d, [], rfl, Fr.of (Sl.trans Sf), St0, by rw [upd_ne nlf, upd_same], upd_same, Paired.mapP hus fun _ _ => StepAt.mono (Sl.trans Sf), .nil, List.Perm.refl _, rfl⟩, ?_⟩
    rintro m σ H2 ⟨lv, fv, ld, fdd, rfl, f2, st2, hl2, hf2, pl, pf, perm, rfl⟩
    have hll := paired_len pl
    have hfl := paired_len pf
    have hpl := perm.length_eq
    rw [List.length_append] at hpl
    refine ⟨_, rfl, Nat.zero_le _, fun e he => ⟨_, _, .lst ((same_new he).seq (SqL.of hl2)) (steps_dp (Paired.mapP pl fun _ _ => StepAt.mono (same_new he))), .lst (SqL.of upd_same) .nil, stpDs_shapedL _, nil_shaped, ?_⟩⟩
    have Se := same_new (o := .lst []) he
    have f3 := f2.trans (Fr.of Se)
    have stm : ∀ {Ha Hb : Hp}, Same Ha Hb → StOk Ha s → StOk Hb s := fun S h => by
      rcases h with ⟨c, h⟩ | ⟨x, y, z, h⟩
      · exact .inl ⟨c, S _ _ h⟩
      · exact .inr ⟨x, y, z, S _ _ h⟩
    have st3 := stm Se st2
    have hl3 := Se _ _ hl2
    have hf3 := Se _ _ hf2
    have pl3 := Paired.mapP pl fun _ _ => StepAt.mono Se
    have pf3 := Paired.mapP pf fun _ _ => StepAt.mono Se
    generalize upd H2 e (.lst []) = H3 at f3 st3 hl3 hf3 pl3 pf3 ⊢
    by_cases hld : ld = []
    · have et : PyData.eqv (.list (ld.map stpD)) (.list []) = true := by rw [hld]; exact eqv_nil0
      rw [et]
      refine ⟨false, rfl, iteF ⟨_, rfl, ff, fv, rfl, SqL.of hf3, fun p ot hot hp => ?_⟩⟩
      have Sp := same_new (o := .frz ot (.tup fv)) hp
      rw [hld, List.append_nil] at perm
      exact k p fdd _ (f3.trans (Fr.of Sp)) (stm Sp st3) ⟨p, fv, rfl, .inl (.inr ⟨ot, upd_same⟩), Paired.mapP pf3 fun _ _ => StepAt.mono Sp⟩ perm ⟨ot, fv, upd_same, hot⟩
    · have et : PyData.eqv (.list (ld.map stpD)) (.list []) = false := eqv_nilD (by simpa using hld)
      rw [et]
      refine ⟨true, rfl, iteT ⟨fun σ' H' => ∃ m', m' < lv.length ∧ WW m' σ' H', fun _ _ h => h, ?_⟩⟩
      have hpos := List.length_pos_iff.mpr hld
      refine ⟨_, rfl, .inl ⟨rfl, _, SqL.of hf3⟩, _, rfl, .inl ⟨rfl, _, SqL.of hl3⟩, _, rfl, _, rfl, l, _, rfl, .inl (SqL.of hl3), s, _, rfl, by omega, by omega, st3, fun j H4 j0 j1 f4 st4 => ?_⟩
      obtain ⟨i, rfl⟩ := Int.eq_ofNat_of_zero_le j0
      have hi : i < lv.length := by omega
      have w4 := f4.tup st3
      have hl4 := f4 _ _ hl3 nsl.symm
      have hf4 := f4 _ _ hf3 nsf.symm
      obtain ⟨t, ht, htt⟩ := paired_get pl3 (List.getElem?_eq_getElem hi)
      refine ⟨l, lv, _, i, lv[i], rfl, rfl, hl4, by omega, by omega, ?_, List.getElem?_eq_getElem hi, ?_⟩
      · exact (ixN_seq (ixN_j hi)).1
      have hlN : H l = none := hl
      have hfN : H ff = none := none_of Sl hff
      have nfl : ff ≠ l := nlf.symm
      have hf5 : (upd H4 l (.lst (lv.eraseIdx i))) ff = some (.lst fv) := by rw [upd_ne nfl]; exact hf4
      have w5 := w4.trans (TupS.lst (u := .lst (lv.eraseIdx i)) hl4)
      have w6 := w5.trans (TupS.lst (u := .lst (fv ++ [lv[i]])) hf5)
      refine ⟨ff, fv, lv[i], rfl, rfl, hf5, Nat.lt_of_le_of_lt (show _ ≤ 1000 by omega) (show 1000 < sizeLine by decide), ?_⟩
      have hlen : (lv.eraseIdx i).length < lv.length := by rw [List.length_eraseIdx_of_lt hi]; omega
      refine ⟨_, hlen, lv.eraseIdx i, fv ++ [lv[i]], ld.eraseIdx i, fdd ++ [t], rfl, fun a o ha n => ?_, ?_, ?_, upd_same, paired_erase i (Paired.mapP pl3 fun _ _ => StepAt.tmono w6), paired_snoc (Paired.mapP pf3 fun _ _ => StepAt.tmono w6) (htt.tmono w6), ?_, rfl⟩
      · have n1 : a ≠ l := fun z => by rw [z, hlN] at ha; cases ha
        have n2 : a ≠ ff := fun z => by rw [z, hfN] at ha; cases ha
        rw [upd_ne n2, upd_ne n1]
        exact f4 _ _ (f3 _ _ ha n) n
      · rcases st4 with ⟨c, h⟩ | ⟨x, y, z, h⟩
        · exact .inl ⟨c, by rw [upd_ne nsf, upd_ne nsl]; exact h⟩
        · exact .inr ⟨x, y, z, by rw [upd_ne nsf, upd_ne nsl]; exact h⟩
      · rw [upd_ne nlf, upd_same]
      · rw [List.append_assoc]
        exact ((erase_perm ht).append_left fdd).trans perm
/-- steps laid as they stand -/
theorem stp_new {H : Hp} {p : Addr} {b : Bool} {x : Int} (h : H p = some (.tup [.str (wd b), .int x])) : StepAt K H (.ref p) (b, x) := ⟨p, rfl, SqT.of h⟩
def spOther (K : PySem.W.Frag) : Sp := fun vs H Q _ => ∃ (s : Addr) (k n : Nat), vs = [.ref s, .int (k : Nat), .int (n : Nat)] ∧ k < n ∧ n ≤ 6 ∧ StOk H s ∧
  ∀ p d H', Fr s H H' → StOk H' s → DealAt K H' (.ref p) d → RowOk k n d → Q (.ref p) H'
theorem StOk.same {s : Addr} {Ha Hb : Hp} (S : Same Ha Hb) (h : StOk Ha s) : StOk Hb s := by
  rcases h with ⟨c, h⟩ | ⟨x, y, z, h⟩
  · exact .inl ⟨c, S _ _ h⟩
  · exact .inr ⟨x, y, z, S _ _ h⟩
/-- where the steps are gathered -/
structure Gath (K : PySem.W.Frag) (s q : Addr) (H H' : Hp) (d : Deal) : Prop where
  fr : Fr s H H'
  st : StOk H' s
  ne : q ≠ s
  new : H q = none
  at_ : ∃ us, H' q = some (.lst us) ∧ Paired (StepAt K H') us d
theorem Gath.same {s q : Addr} {H H1 H2 : Hp} {d : Deal} (G : Gath K s q H H1 d) (S : Same H1 H2) : Gath K s q H H2 d :=
  ⟨G.fr.trans (Fr.of S), G.st.same S, G.ne, G.new, let ⟨us, a, b⟩ := G.at_; ⟨us, S _ _ a, Paired.mapP b fun _ _ => StepAt.mono S⟩⟩
theorem Gath.step {s q : Addr} {H H1 H2 : Hp} {d : Deal} (G : Gath K s q H H1 d) (f : Fr s H1 H2) (st : StOk H2 s) : Gath K s q H H2 d :=
  ⟨G.fr.trans f, st, G.ne, G.new, let ⟨us, a, b⟩ := G.at_; ⟨us, f _ _ a G.ne, Paired.mapP b fun _ _ => StepAt.tmono (f.tup G.st)⟩⟩
theorem Gath.add {s q t : Addr} {H H1 : Hp} {d : Deal} {b : Bool} {x : Int} {us : List V} (G : Gath K s q H H1 d) (hq : H1 q = some (.lst us)) (ht : H1 t = some (.tup [.str (wd b), .int x])) : Gath K s q H (upd H1 q (.lst (us ++ [.ref t]))) (d ++ [(b, x)]) := by
  obtain ⟨us', a, p⟩ := G.at_
  rw [hq] at a; cases a
  have w := TupS.lst (u := .lst (us ++ [.ref t])) hq
  refine ⟨fun c o hc n => ?_, ?_, G.ne, G.new, _, upd_same, paired_snoc (Paired.mapP p fun _ _ => StepAt.tmono w) ⟨t, rfl, w.tup (SqT.of ht)⟩⟩
  · rw [upd_ne (fun z => by rw [z, G.new] at hc; cases hc)]
    exact G.fr c o hc n
  · rcases G.st with ⟨c, h⟩ | ⟨x, y, z, h⟩
    · exact .inl ⟨c, by rw [upd_ne G.ne.symm]; exact h⟩
    · exact .inr ⟨x, y, z, by rw [upd_ne G.ne.symm]; exact h⟩
theorem ok_law_other {f : Addr} {fd : FuncData} (F : Fun K "_law_other" "_law_other" s_law_other f fd) (T : Facts K mg cC cE cR) (c1 : C8.Cal P w K mg base 1 "_law_digit" spDigit []) (c2 : C8.Cal P w K mg base 2 "_law_turned" (spTurned K) []) : FnOk P w K mg base CX0 3 f fd ["_law_state", "_law_k", "_law_many"] (spOther K) := by
  refine F.ok sc_law_other (fun vs H Q E h => ?_) (fun cdv A outer sh H vs Q E hr h => ?_)
  · obtain ⟨s, k, n, rfl, _⟩ := h; rfl
  · obtain ⟨s, k, n, rfl, hk, hn, hs, kk⟩ := h
    have nd := sc_law_other.nd
    refine ⟨_, pss_cons (ps_set (i := 3) nd rfl (Or.inl rfl) (pe_lst (pa_cons (pe_tup (pa_cons pe_str (pa_cons (pe_op op_add pe_int (pv 1)) pa_nil))) pa_nil)))
      (pss_cons (ps_if (pt_cmpR op_eq (pv 1) pe_int (nomark _))
        (pss_one (ps_expr (pe_bm PySem.F.plainAttrs_list PySem.F.slot_list_append PySem.F.type_list_append mt_append (pv 3) (pa_cons (pe_tup (pa_cons pe_str (pa_cons pe_int pa_nil))) pa_nil))))
        (pss_one (ps_expr (pe_bm PySem.F.plainAttrs_list PySem.F.slot_list_append PySem.F.type_list_append mt_append (pv 3) (pa_cons (pe_tup (pa_cons pe_str (pa_cons (pe_op op_add pe_int (pv 1)) pa_nil))) pa_nil)))))
      (pss_cons (ps_if (pt_cmpR op_eq (C8.pe_c c1 hr (by decide) rfl (pa_cons (pv 0) (pa_cons pe_int pa_nil))) pe_int (nomark _))
        (pss_one (ps_expr (pe_bm PySem.F.plainAttrs_list PySem.F.slot_list_append PySem.F.type_list_append mt_append (pv 3) (pa_cons (pe_tup (pa_cons pe_str (pa_cons pe_int pa_nil))) pa_nil)))) pss_nil)
      (pss_cons (ps_if (PW.pt (pw_or (pt_cmpR op_eq (pv 1) (pe_op op_sub (pv 2) pe_int) (nomark _)) (pw_or1 (pt_cmpR op_eq (C8.pe_c c1 hr (by decide) rfl (pa_cons (pv 0) (pa_cons pe_int pa_nil))) pe_int (nomark _)))))
        (pss_one (ps_expr (pe_bm PySem.F.plainAttrs_list PySem.F.slot_list_append PySem.F.type_list_append mt_append (pv 3) (pa_cons (pe_tup (pa_cons pe_str (pa_cons pe_int pa_nil))) pa_nil)))) pss_nil)
      (pss_cons (ps_if (pt_cmpR op_eq (C8.pe_c c1 hr (by decide) rfl (pa_cons (pv 0) (pa_cons pe_int pa_nil))) pe_int (nomark _))
        (pss_one (ps_expr (pe_bm PySem.F.plainAttrs_list PySem.F.slot_list_append PySem.F.type_list_append mt_append (pv 3) (pa_cons (pe_tup (pa_cons (pe_ix ix_list (pe_lst (pa_cons pe_str (pa_cons pe_str pa_nil))) (C8.pe_c c1 hr (by decide) rfl (pa_cons (pv 0) (pa_cons pe_int pa_nil))) (fun _ _ => rfl)) (pa_cons (pe_op op_add pe_int (pv 1)) pa_nil))) pa_nil)))) pss_nil)
      (pss_one (ps_ret (C8.pe_c c2 hr (by decide) rfl (pa_cons (pv 0) (pa_cons (pv 3) pa_nil))))))))), ?_⟩
    have sm : ∀ m : Nat, m ≤ 100 → m < sizeLine := fun m h => Nat.lt_of_le_of_lt h (show 100 < sizeLine by decide)
    obtain ⟨sl0, hs0⟩ := hs.lst
    refine ⟨_, rfl, _, _, rfl, rfl, Nat.le_of_ble_eq_true rfl, fun t ht => ⟨Nat.le_of_ble_eq_true rfl, fun q hq => ?_⟩⟩
    have S0 := (same_new (o := .tup [.str "write", .int (10 + (k : Int))]) ht).trans (same_new (o := .lst [.ref t]) hq)
    have G0 : Gath K s q H (upd (upd H t (.tup [.str "write", .int (10 + (k : Int))])) q (.lst [.ref t])) [(true, 10 + (k : Int))] := by
      refine ⟨Fr.of S0, hs.same S0, fun z => ?_, none_of (same_new ht) hq, _, upd_same, .cons ⟨t, rfl, SqT.of ((same_new hq) _ _ upd_same)⟩ .nil⟩
      rw [z, (same_new ht) _ _ hs0] at hq; cases hq
    generalize upd (upd H t (.tup [.str "write", .int (10 + (k : Int))])) q (.lst [.ref t]) = H0 at G0 ⊢
    refine ⟨_, rfl, rfl, decide ((k : Int) = 0), congrArg V.bl (by simp), ?_⟩
    by_cases k0 : k = 0
    · rw [decide_eq_true (show (k : Int) = 0 by omega)]
      obtain ⟨us1, hu1, pu1⟩ := G0.at_
      have pl1 := paired_len pu1
      refine iteT ⟨_, rfl, .inl ⟨rfl, _, SqL.of hu1⟩, Nat.le_of_ble_eq_true rfl, fun t1 ht1 => ?_⟩
      have St1 := same_new (o := .tup [.str "write", .int (0)]) ht1
      refine ⟨q, us1, _, rfl, rfl, St1 _ _ hu1, sm _ (by simp at pl1; omega), ?_⟩
      have Gn1 := (G0.same St1).add (b := true) (x := 0) (St1 _ _ hu1) upd_same
      refine ⟨_, rfl, s, 3, rfl, by decide, by decide, Gn1.st, fun x2 Hd2 xa2 xb2 fd2 sd2 => ?_⟩
      have Gd2 := Gn1.step fd2 sd2
      refine ⟨rfl, decide (x2 = 0), congrArg V.bl (by simp), ?_⟩
      by_cases a2 : x2 = 0
      · rw [decide_eq_true a2]
        obtain ⟨us3, hu3, pu3⟩ := Gd2.at_
        have pl3 := paired_len pu3
        refine iteT ⟨_, rfl, .inl ⟨rfl, _, SqL.of hu3⟩, Nat.le_of_ble_eq_true rfl, fun t3 ht3 => ?_⟩
        have St3 := same_new (o := .tup [.str "write", .int (2)]) ht3
        refine ⟨q, us3, _, rfl, rfl, St3 _ _ hu3, sm _ (by simp at pl3; omega), ?_⟩
        have Gn3 := (Gd2.same St3).add (b := true) (x := 2) (St3 _ _ hu3) upd_same
        refine ⟨_, rfl, _, rfl, _, _, rfl, rfl, rfl, decide ((k : Int) = (n : Int) - 1), congrArg V.bl (by simp), ?_⟩
        by_cases lst : (k : Int) = (n : Int) - 1
        · rw [decide_eq_true lst]
          obtain ⟨us4, hu4, pu4⟩ := Gn3.at_
          have pl4 := paired_len pu4
          refine iteT (iteT ⟨_, rfl, .inl ⟨rfl, _, SqL.of hu4⟩, Nat.le_of_ble_eq_true rfl, fun t4 ht4 => ?_⟩)
          have St4 := same_new (o := .tup [.str "read", .int (1)]) ht4
          refine ⟨q, us4, _, rfl, rfl, St4 _ _ hu4, sm _ (by simp at pl4; omega), ?_⟩
          have Gn4 := (Gn3.same St4).add (b := false) (x := 1) (St4 _ _ hu4) upd_same
          refine ⟨_, rfl, s, 4, rfl, by decide, by decide, Gn4.st, fun x5 Hd5 xa5 xb5 fd5 sd5 => ?_⟩
          have Gd5 := Gn4.step fd5 sd5
          refine ⟨rfl, decide (x5 = 0), congrArg V.bl (by simp), ?_⟩
          by_cases a5 : x5 = 0
          · rw [decide_eq_true a5]
            obtain ⟨us6, hu6, pu6⟩ := Gd5.at_
            have pl6 := paired_len pu6
            refine iteT ⟨_, rfl, .inl ⟨rfl, _, SqL.of hu6⟩, Nat.le_of_ble_eq_true rfl, fun rw6 hrw6 => ?_⟩
            have Sr6 := same_new (o := .lst [.str "read", .str "write"]) hrw6
            have Gr6 := Gd5.same Sr6
            refine ⟨_, rfl, s, 2, rfl, by decide, by decide, Gr6.st, fun x7 Hd7 xa7 xb7 fd7 sd7 => ?_⟩
            have Gd7 := Gr6.step fd7 sd7
            have nr6 : rw6 ≠ s := fun z => by obtain ⟨xs, hx⟩ := Gd5.st.lst; rw [z, hx] at hrw6; cases hrw6
            have hr6 := fd7 _ _ upd_same nr6
            have hu26 := fd7 _ _ (Sr6 _ _ hu6) Gd5.ne
            have cs6 : x7 = 0 ∨ x7 = 1 := by omega
            rcases cs6 with z6 | z6
            · subst z6
              refine ⟨rw6, _, _, .str "read", rfl, rfl, SqL.of hr6, rfl, _, rfl, _, _, rfl, rfl, Nat.le_of_ble_eq_true rfl, fun tt6 htt6 => ?_⟩
              have Stt6 := same_new (o := .tup [.str "read", .int (30 + (k : Int))]) htt6
              refine ⟨q, us6, _, rfl, rfl, Stt6 _ _ hu26, sm _ (by simp at pl6; omega), ?_⟩
              have Gz6 := (Gd7.same Stt6).add (b := false) (x := 30 + (k : Int)) (Stt6 _ _ hu26) upd_same
              obtain ⟨uf, hf, pf⟩ := Gz6.at_
              have ok := otherD_ok hk hn true false true false
              rw [decide_eq_true lst] at ok
              refine ⟨_, rfl, _, rfl, s, q, uf, _, rfl, Gz6.st, SqL.of hf, pf, by simp, fun p d' H' f' st' hd' pm _ => kk p d' H' (Gz6.fr.trans f') st' hd' (RowOk.perm (by simpa [otherD, k0, lst] using ok) pm)⟩
            · subst z6
              refine ⟨rw6, _, _, .str "write", rfl, rfl, SqL.of hr6, rfl, _, rfl, _, _, rfl, rfl, Nat.le_of_ble_eq_true rfl, fun tt6 htt6 => ?_⟩
              have Stt6 := same_new (o := .tup [.str "write", .int (30 + (k : Int))]) htt6
              refine ⟨q, us6, _, rfl, rfl, Stt6 _ _ hu26, sm _ (by simp at pl6; omega), ?_⟩
              have Gz6 := (Gd7.same Stt6).add (b := true) (x := 30 + (k : Int)) (Stt6 _ _ hu26) upd_same
              obtain ⟨uf, hf, pf⟩ := Gz6.at_
              have ok := otherD_ok hk hn true false true true
              rw [decide_eq_true lst] at ok
              refine ⟨_, rfl, _, rfl, s, q, uf, _, rfl, Gz6.st, SqL.of hf, pf, by simp, fun p d' H' f' st' hd' pm _ => kk p d' H' (Gz6.fr.trans f') st' hd' (RowOk.perm (by simpa [otherD, k0, lst] using ok) pm)⟩
          · rw [decide_eq_false a5]
            refine iteF ?_
            obtain ⟨uf, hf, pf⟩ := Gd5.at_
            have ok := otherD_ok hk hn true false false true
            rw [decide_eq_true lst] at ok
            refine ⟨_, rfl, _, rfl, s, q, uf, _, rfl, Gd5.st, SqL.of hf, pf, by simp, fun p d' H' f' st' hd' pm _ => kk p d' H' (Gd5.fr.trans f') st' hd' (RowOk.perm (by simpa [otherD, k0, lst] using ok) pm)⟩
        · rw [decide_eq_false lst]
          refine iteF ?_
          refine ⟨_, rfl, s, 3, rfl, by decide, by decide, Gn3.st, fun x8 Hd8 xa8 xb8 fd8 sd8 => ?_⟩
          have Gd8 := Gn3.step fd8 sd8
          refine ⟨rfl, decide (x8 = 0), congrArg V.bl (by simp), ?_⟩
          by_cases a8 : x8 = 0
          · rw [decide_eq_true a8]
            obtain ⟨us9, hu9, pu9⟩ := Gd8.at_
            have pl9 := paired_len pu9
            refine iteT ⟨_, rfl, .inl ⟨rfl, _, SqL.of hu9⟩, Nat.le_of_ble_eq_true rfl, fun t9 ht9 => ?_⟩
            have St9 := same_new (o := .tup [.str "read", .int (1)]) ht9
            refine ⟨q, us9, _, rfl, rfl, St9 _ _ hu9, sm _ (by simp at pl9; omega), ?_⟩
            have Gn9 := (Gd8.same St9).add (b := false) (x := 1) (St9 _ _ hu9) upd_same
            refine ⟨_, rfl, s, 4, rfl, by decide, by decide, Gn9.st, fun x10 Hd10 xa10 xb10 fd10 sd10 => ?_⟩
            have Gd10 := Gn9.step fd10 sd10
            refine ⟨rfl, decide (x10 = 0), congrArg V.bl (by simp), ?_⟩
            by_cases a10 : x10 = 0
            · rw [decide_eq_true a10]
              obtain ⟨us11, hu11, pu11⟩ := Gd10.at_
              have pl11 := paired_len pu11
              refine iteT ⟨_, rfl, .inl ⟨rfl, _, SqL.of hu11⟩, Nat.le_of_ble_eq_true rfl, fun rw11 hrw11 => ?_⟩
              have Sr11 := same_new (o := .lst [.str "read", .str "write"]) hrw11
              have Gr11 := Gd10.same Sr11
              refine ⟨_, rfl, s, 2, rfl, by decide, by decide, Gr11.st, fun x12 Hd12 xa12 xb12 fd12 sd12 => ?_⟩
              have Gd12 := Gr11.step fd12 sd12
              have nr11 : rw11 ≠ s := fun z => by obtain ⟨xs, hx⟩ := Gd10.st.lst; rw [z, hx] at hrw11; cases hrw11
              have hr11 := fd12 _ _ upd_same nr11
              have hu211 := fd12 _ _ (Sr11 _ _ hu11) Gd10.ne
              have cs11 : x12 = 0 ∨ x12 = 1 := by omega
              rcases cs11 with z11 | z11
              · subst z11
                refine ⟨rw11, _, _, .str "read", rfl, rfl, SqL.of hr11, rfl, _, rfl, _, _, rfl, rfl, Nat.le_of_ble_eq_true rfl, fun tt11 htt11 => ?_⟩
                have Stt11 := same_new (o := .tup [.str "read", .int (30 + (k : Int))]) htt11
                refine ⟨q, us11, _, rfl, rfl, Stt11 _ _ hu211, sm _ (by simp at pl11; omega), ?_⟩
                have Gz11 := (Gd12.same Stt11).add (b := false) (x := 30 + (k : Int)) (Stt11 _ _ hu211) upd_same
                obtain ⟨uf, hf, pf⟩ := Gz11.at_
                have ok := otherD_ok hk hn true true true false
                rw [decide_eq_false lst] at ok
                refine ⟨_, rfl, _, rfl, s, q, uf, _, rfl, Gz11.st, SqL.of hf, pf, by simp, fun p d' H' f' st' hd' pm _ => kk p d' H' (Gz11.fr.trans f') st' hd' (RowOk.perm (by simpa [otherD, k0, lst] using ok) pm)⟩
              · subst z11
                refine ⟨rw11, _, _, .str "write", rfl, rfl, SqL.of hr11, rfl, _, rfl, _, _, rfl, rfl, Nat.le_of_ble_eq_true rfl, fun tt11 htt11 => ?_⟩
                have Stt11 := same_new (o := .tup [.str "write", .int (30 + (k : Int))]) htt11
                refine ⟨q, us11, _, rfl, rfl, Stt11 _ _ hu211, sm _ (by simp at pl11; omega), ?_⟩
                have Gz11 := (Gd12.same Stt11).add (b := true) (x := 30 + (k : Int)) (Stt11 _ _ hu211) upd_same
                obtain ⟨uf, hf, pf⟩ := Gz11.at_
                have ok := otherD_ok hk hn true true true true
                rw [decide_eq_false lst] at ok
                refine ⟨_, rfl, _, rfl, s, q, uf, _, rfl, Gz11.st, SqL.of hf, pf, by simp, fun p d' H' f' st' hd' pm _ => kk p d' H' (Gz11.fr.trans f') st' hd' (RowOk.perm (by simpa [otherD, k0, lst] using ok) pm)⟩
            · rw [decide_eq_false a10]
              refine iteF ?_
              obtain ⟨uf, hf, pf⟩ := Gd10.at_
              have ok := otherD_ok hk hn true true false true
              rw [decide_eq_false lst] at ok
              refine ⟨_, rfl, _, rfl, s, q, uf, _, rfl, Gd10.st, SqL.of hf, pf, by simp, fun p d' H' f' st' hd' pm _ => kk p d' H' (Gd10.fr.trans f') st' hd' (RowOk.perm (by simpa [otherD, k0, lst] using ok) pm)⟩
          · rw [decide_eq_false a8]
            refine iteF ?_
            refine ⟨_, rfl, s, 4, rfl, by decide, by decide, Gd8.st, fun x13 Hd13 xa13 xb13 fd13 sd13 => ?_⟩
            have Gd13 := Gd8.step fd13 sd13
            refine ⟨rfl, decide (x13 = 0), congrArg V.bl (by simp), ?_⟩
            by_cases a13 : x13 = 0
            · rw [decide_eq_true a13]
              obtain ⟨us14, hu14, pu14⟩ := Gd13.at_
              have pl14 := paired_len pu14
              refine iteT ⟨_, rfl, .inl ⟨rfl, _, SqL.of hu14⟩, Nat.le_of_ble_eq_true rfl, fun rw14 hrw14 => ?_⟩
              have Sr14 := same_new (o := .lst [.str "read", .str "write"]) hrw14
              have Gr14 := Gd13.same Sr14
              refine ⟨_, rfl, s, 2, rfl, by decide, by decide, Gr14.st, fun x15 Hd15 xa15 xb15 fd15 sd15 => ?_⟩
              have Gd15 := Gr14.step fd15 sd15
              have nr14 : rw14 ≠ s := fun z => by obtain ⟨xs, hx⟩ := Gd13.st.lst; rw [z, hx] at hrw14; cases hrw14
              have hr14 := fd15 _ _ upd_same nr14
              have hu214 := fd15 _ _ (Sr14 _ _ hu14) Gd13.ne
              have cs14 : x15 = 0 ∨ x15 = 1 := by omega
              rcases cs14 with z14 | z14
              · subst z14
                refine ⟨rw14, _, _, .str "read", rfl, rfl, SqL.of hr14, rfl, _, rfl, _, _, rfl, rfl, Nat.le_of_ble_eq_true rfl, fun tt14 htt14 => ?_⟩
                have Stt14 := same_new (o := .tup [.str "read", .int (30 + (k : Int))]) htt14
                refine ⟨q, us14, _, rfl, rfl, Stt14 _ _ hu214, sm _ (by simp at pl14; omega), ?_⟩
                have Gz14 := (Gd15.same Stt14).add (b := false) (x := 30 + (k : Int)) (Stt14 _ _ hu214) upd_same
                obtain ⟨uf, hf, pf⟩ := Gz14.at_
                have ok := otherD_ok hk hn true false true false
                rw [decide_eq_false lst] at ok
                refine ⟨_, rfl, _, rfl, s, q, uf, _, rfl, Gz14.st, SqL.of hf, pf, by simp, fun p d' H' f' st' hd' pm _ => kk p d' H' (Gz14.fr.trans f') st' hd' (RowOk.perm (by simpa [otherD, k0, lst] using ok) pm)⟩
              · subst z14
                refine ⟨rw14, _, _, .str "write", rfl, rfl, SqL.of hr14, rfl, _, rfl, _, _, rfl, rfl, Nat.le_of_ble_eq_true rfl, fun tt14 htt14 => ?_⟩
                have Stt14 := same_new (o := .tup [.str "write", .int (30 + (k : Int))]) htt14
                refine ⟨q, us14, _, rfl, rfl, Stt14 _ _ hu214, sm _ (by simp at pl14; omega), ?_⟩
                have Gz14 := (Gd15.same Stt14).add (b := true) (x := 30 + (k : Int)) (Stt14 _ _ hu214) upd_same
                obtain ⟨uf, hf, pf⟩ := Gz14.at_
                have ok := otherD_ok hk hn true false true true
                rw [decide_eq_false lst] at ok
                refine ⟨_, rfl, _, rfl, s, q, uf, _, rfl, Gz14.st, SqL.of hf, pf, by simp, fun p d' H' f' st' hd' pm _ => kk p d' H' (Gz14.fr.trans f') st' hd' (RowOk.perm (by simpa [otherD, k0, lst] using ok) pm)⟩
            · rw [decide_eq_false a13]
              refine iteF ?_
              obtain ⟨uf, hf, pf⟩ := Gd13.at_
              have ok := otherD_ok hk hn true false false true
              rw [decide_eq_false lst] at ok
              refine ⟨_, rfl, _, rfl, s, q, uf, _, rfl, Gd13.st, SqL.of hf, pf, by simp, fun p d' H' f' st' hd' pm _ => kk p d' H' (Gd13.fr.trans f') st' hd' (RowOk.perm (by simpa [otherD, k0, lst] using ok) pm)⟩
      · rw [decide_eq_false a2]
        refine iteF ?_
        refine ⟨_, rfl, _, rfl, _, _, rfl, rfl, rfl, decide ((k : Int) = (n : Int) - 1), congrArg V.bl (by simp), ?_⟩
        by_cases lst : (k : Int) = (n : Int) - 1
        · rw [decide_eq_true lst]
          obtain ⟨us16, hu16, pu16⟩ := Gd2.at_
          have pl16 := paired_len pu16
          refine iteT (iteT ⟨_, rfl, .inl ⟨rfl, _, SqL.of hu16⟩, Nat.le_of_ble_eq_true rfl, fun t16 ht16 => ?_⟩)
          have St16 := same_new (o := .tup [.str "read", .int (1)]) ht16
          refine ⟨q, us16, _, rfl, rfl, St16 _ _ hu16, sm _ (by simp at pl16; omega), ?_⟩
          have Gn16 := (Gd2.same St16).add (b := false) (x := 1) (St16 _ _ hu16) upd_same
          refine ⟨_, rfl, s, 4, rfl, by decide, by decide, Gn16.st, fun x17 Hd17 xa17 xb17 fd17 sd17 => ?_⟩
          have Gd17 := Gn16.step fd17 sd17
          refine ⟨rfl, decide (x17 = 0), congrArg V.bl (by simp), ?_⟩
          by_cases a17 : x17 = 0
          · rw [decide_eq_true a17]
            obtain ⟨us18, hu18, pu18⟩ := Gd17.at_
            have pl18 := paired_len pu18
            refine iteT ⟨_, rfl, .inl ⟨rfl, _, SqL.of hu18⟩, Nat.le_of_ble_eq_true rfl, fun rw18 hrw18 => ?_⟩
            have Sr18 := same_new (o := .lst [.str "read", .str "write"]) hrw18
            have Gr18 := Gd17.same Sr18
            refine ⟨_, rfl, s, 2, rfl, by decide, by decide, Gr18.st, fun x19 Hd19 xa19 xb19 fd19 sd19 => ?_⟩
            have Gd19 := Gr18.step fd19 sd19
            have nr18 : rw18 ≠ s := fun z => by obtain ⟨xs, hx⟩ := Gd17.st.lst; rw [z, hx] at hrw18; cases hrw18
            have hr18 := fd19 _ _ upd_same nr18
            have hu218 := fd19 _ _ (Sr18 _ _ hu18) Gd17.ne
            have cs18 : x19 = 0 ∨ x19 = 1 := by omega
            rcases cs18 with z18 | z18
            · subst z18
              refine ⟨rw18, _, _, .str "read", rfl, rfl, SqL.of hr18, rfl, _, rfl, _, _, rfl, rfl, Nat.le_of_ble_eq_true rfl, fun tt18 htt18 => ?_⟩
              have Stt18 := same_new (o := .tup [.str "read", .int (30 + (k : Int))]) htt18
              refine ⟨q, us18, _, rfl, rfl, Stt18 _ _ hu218, sm _ (by simp at pl18; omega), ?_⟩
              have Gz18 := (Gd19.same Stt18).add (b := false) (x := 30 + (k : Int)) (Stt18 _ _ hu218) upd_same
              obtain ⟨uf, hf, pf⟩ := Gz18.at_
              have ok := otherD_ok hk hn false false true false
              rw [decide_eq_true lst] at ok
              refine ⟨_, rfl, _, rfl, s, q, uf, _, rfl, Gz18.st, SqL.of hf, pf, by simp, fun p d' H' f' st' hd' pm _ => kk p d' H' (Gz18.fr.trans f') st' hd' (RowOk.perm (by simpa [otherD, k0, lst] using ok) pm)⟩
            · subst z18
              refine ⟨rw18, _, _, .str "write", rfl, rfl, SqL.of hr18, rfl, _, rfl, _, _, rfl, rfl, Nat.le_of_ble_eq_true rfl, fun tt18 htt18 => ?_⟩
              have Stt18 := same_new (o := .tup [.str "write", .int (30 + (k : Int))]) htt18
              refine ⟨q, us18, _, rfl, rfl, Stt18 _ _ hu218, sm _ (by simp at pl18; omega), ?_⟩
              have Gz18 := (Gd19.same Stt18).add (b := true) (x := 30 + (k : Int)) (Stt18 _ _ hu218) upd_same
              obtain ⟨uf, hf, pf⟩ := Gz18.at_
              have ok := otherD_ok hk hn false false true true
              rw [decide_eq_true lst] at ok
              refine ⟨_, rfl, _, rfl, s, q, uf, _, rfl, Gz18.st, SqL.of hf, pf, by simp, fun p d' H' f' st' hd' pm _ => kk p d' H' (Gz18.fr.trans f') st' hd' (RowOk.perm (by simpa [otherD, k0, lst] using ok) pm)⟩
          · rw [decide_eq_false a17]
            refine iteF ?_
            obtain ⟨uf, hf, pf⟩ := Gd17.at_
            have ok := otherD_ok hk hn false false false true
            rw [decide_eq_true lst] at ok
            refine ⟨_, rfl, _, rfl, s, q, uf, _, rfl, Gd17.st, SqL.of hf, pf, by simp, fun p d' H' f' st' hd' pm _ => kk p d' H' (Gd17.fr.trans f') st' hd' (RowOk.perm (by simpa [otherD, k0, lst] using ok) pm)⟩
        · rw [decide_eq_false lst]
          refine iteF ?_
          refine ⟨_, rfl, s, 3, rfl, by decide, by decide, Gd2.st, fun x20 Hd20 xa20 xb20 fd20 sd20 => ?_⟩
          have Gd20 := Gd2.step fd20 sd20
          refine ⟨rfl, decide (x20 = 0), congrArg V.bl (by simp), ?_⟩
          by_cases a20 : x20 = 0
          · rw [decide_eq_true a20]
            obtain ⟨us21, hu21, pu21⟩ := Gd20.at_
            have pl21 := paired_len pu21
            refine iteT ⟨_, rfl, .inl ⟨rfl, _, SqL.of hu21⟩, Nat.le_of_ble_eq_true rfl, fun t21 ht21 => ?_⟩
            have St21 := same_new (o := .tup [.str "read", .int (1)]) ht21
            refine ⟨q, us21, _, rfl, rfl, St21 _ _ hu21, sm _ (by simp at pl21; omega), ?_⟩
            have Gn21 := (Gd20.same St21).add (b := false) (x := 1) (St21 _ _ hu21) upd_same
            refine ⟨_, rfl, s, 4, rfl, by decide, by decide, Gn21.st, fun x22 Hd22 xa22 xb22 fd22 sd22 => ?_⟩
            have Gd22 := Gn21.step fd22 sd22
            refine ⟨rfl, decide (x22 = 0), congrArg V.bl (by simp), ?_⟩
            by_cases a22 : x22 = 0
            · rw [decide_eq_true a22]
              obtain ⟨us23, hu23, pu23⟩ := Gd22.at_
              have pl23 := paired_len pu23
              refine iteT ⟨_, rfl, .inl ⟨rfl, _, SqL.of hu23⟩, Nat.le_of_ble_eq_true rfl, fun rw23 hrw23 => ?_⟩
              have Sr23 := same_new (o := .lst [.str "read", .str "write"]) hrw23
              have Gr23 := Gd22.same Sr23
              refine ⟨_, rfl, s, 2, rfl, by decide, by decide, Gr23.st, fun x24 Hd24 xa24 xb24 fd24 sd24 => ?_⟩
              have Gd24 := Gr23.step fd24 sd24
              have nr23 : rw23 ≠ s := fun z => by obtain ⟨xs, hx⟩ := Gd22.st.lst; rw [z, hx] at hrw23; cases hrw23
              have hr23 := fd24 _ _ upd_same nr23
              have hu223 := fd24 _ _ (Sr23 _ _ hu23) Gd22.ne
              have cs23 : x24 = 0 ∨ x24 = 1 := by omega
              rcases cs23 with z23 | z23
              · subst z23
                refine ⟨rw23, _, _, .str "read", rfl, rfl, SqL.of hr23, rfl, _, rfl, _, _, rfl, rfl, Nat.le_of_ble_eq_true rfl, fun tt23 htt23 => ?_⟩
                have Stt23 := same_new (o := .tup [.str "read", .int (30 + (k : Int))]) htt23
                refine ⟨q, us23, _, rfl, rfl, Stt23 _ _ hu223, sm _ (by simp at pl23; omega), ?_⟩
                have Gz23 := (Gd24.same Stt23).add (b := false) (x := 30 + (k : Int)) (Stt23 _ _ hu223) upd_same
                obtain ⟨uf, hf, pf⟩ := Gz23.at_
                have ok := otherD_ok hk hn false true true false
                rw [decide_eq_false lst] at ok
                refine ⟨_, rfl, _, rfl, s, q, uf, _, rfl, Gz23.st, SqL.of hf, pf, by simp, fun p d' H' f' st' hd' pm _ => kk p d' H' (Gz23.fr.trans f') st' hd' (RowOk.perm (by simpa [otherD, k0, lst] using ok) pm)⟩
              · subst z23
                refine ⟨rw23, _, _, .str "write", rfl, rfl, SqL.of hr23, rfl, _, rfl, _, _, rfl, rfl, Nat.le_of_ble_eq_true rfl, fun tt23 htt23 => ?_⟩
                have Stt23 := same_new (o := .tup [.str "write", .int (30 + (k : Int))]) htt23
                refine ⟨q, us23, _, rfl, rfl, Stt23 _ _ hu223, sm _ (by simp at pl23; omega), ?_⟩
                have Gz23 := (Gd24.same Stt23).add (b := true) (x := 30 + (k : Int)) (Stt23 _ _ hu223) upd_same
                obtain ⟨uf, hf, pf⟩ := Gz23.at_
                have ok := otherD_ok hk hn false true true true
                rw [decide_eq_false lst] at ok
                refine ⟨_, rfl, _, rfl, s, q, uf, _, rfl, Gz23.st, SqL.of hf, pf, by simp, fun p d' H' f' st' hd' pm _ => kk p d' H' (Gz23.fr.trans f') st' hd' (RowOk.perm (by simpa [otherD, k0, lst] using ok) pm)⟩
            · rw [decide_eq_false a22]
              refine iteF ?_
              obtain ⟨uf, hf, pf⟩ := Gd22.at_
              have ok := otherD_ok hk hn false true false true
              rw [decide_eq_false lst] at ok
              refine ⟨_, rfl, _, rfl, s, q, uf, _, rfl, Gd22.st, SqL.of hf, pf, by simp, fun p d' H' f' st' hd' pm _ => kk p d' H' (Gd22.fr.trans f') st' hd' (RowOk.perm (by simpa [otherD, k0, lst] using ok) pm)⟩
          · rw [decide_eq_false a20]
            refine iteF ?_
            refine ⟨_, rfl, s, 4, rfl, by decide, by decide, Gd20.st, fun x25 Hd25 xa25 xb25 fd25 sd25 => ?_⟩
            have Gd25 := Gd20.step fd25 sd25
            refine ⟨rfl, decide (x25 = 0), congrArg V.bl (by simp), ?_⟩
            by_cases a25 : x25 = 0
            · rw [decide_eq_true a25]
              obtain ⟨us26, hu26, pu26⟩ := Gd25.at_
              have pl26 := paired_len pu26
              refine iteT ⟨_, rfl, .inl ⟨rfl, _, SqL.of hu26⟩, Nat.le_of_ble_eq_true rfl, fun rw26 hrw26 => ?_⟩
              have Sr26 := same_new (o := .lst [.str "read", .str "write"]) hrw26
              have Gr26 := Gd25.same Sr26
              refine ⟨_, rfl, s, 2, rfl, by decide, by decide, Gr26.st, fun x27 Hd27 xa27 xb27 fd27 sd27 => ?_⟩
              have Gd27 := Gr26.step fd27 sd27
              have nr26 : rw26 ≠ s := fun z => by obtain ⟨xs, hx⟩ := Gd25.st.lst; rw [z, hx] at hrw26; cases hrw26
              have hr26 := fd27 _ _ upd_same nr26
              have hu226 := fd27 _ _ (Sr26 _ _ hu26) Gd25.ne
              have cs26 : x27 = 0 ∨ x27 = 1 := by omega
              rcases cs26 with z26 | z26
              · subst z26
                refine ⟨rw26, _, _, .str "read", rfl, rfl, SqL.of hr26, rfl, _, rfl, _, _, rfl, rfl, Nat.le_of_ble_eq_true rfl, fun tt26 htt26 => ?_⟩
                have Stt26 := same_new (o := .tup [.str "read", .int (30 + (k : Int))]) htt26
                refine ⟨q, us26, _, rfl, rfl, Stt26 _ _ hu226, sm _ (by simp at pl26; omega), ?_⟩
                have Gz26 := (Gd27.same Stt26).add (b := false) (x := 30 + (k : Int)) (Stt26 _ _ hu226) upd_same
                obtain ⟨uf, hf, pf⟩ := Gz26.at_
                have ok := otherD_ok hk hn false false true false
                rw [decide_eq_false lst] at ok
                refine ⟨_, rfl, _, rfl, s, q, uf, _, rfl, Gz26.st, SqL.of hf, pf, by simp, fun p d' H' f' st' hd' pm _ => kk p d' H' (Gz26.fr.trans f') st' hd' (RowOk.perm (by simpa [otherD, k0, lst] using ok) pm)⟩
              · subst z26
                refine ⟨rw26, _, _, .str "write", rfl, rfl, SqL.of hr26, rfl, _, rfl, _, _, rfl, rfl, Nat.le_of_ble_eq_true rfl, fun tt26 htt26 => ?_⟩
                have Stt26 := same_new (o := .tup [.str "write", .int (30 + (k : Int))]) htt26
                refine ⟨q, us26, _, rfl, rfl, Stt26 _ _ hu226, sm _ (by simp at pl26; omega), ?_⟩
                have Gz26 := (Gd27.same Stt26).add (b := true) (x := 30 + (k : Int)) (Stt26 _ _ hu226) upd_same
                obtain ⟨uf, hf, pf⟩ := Gz26.at_
                have ok := otherD_ok hk hn false false true true
                rw [decide_eq_false lst] at ok
                refine ⟨_, rfl, _, rfl, s, q, uf, _, rfl, Gz26.st, SqL.of hf, pf, by simp, fun p d' H' f' st' hd' pm _ => kk p d' H' (Gz26.fr.trans f') st' hd' (RowOk.perm (by simpa [otherD, k0, lst] using ok) pm)⟩
            · rw [decide_eq_false a25]
              refine iteF ?_
              obtain ⟨uf, hf, pf⟩ := Gd25.at_
              have ok := otherD_ok hk hn false false false true
              rw [decide_eq_false lst] at ok
              refine ⟨_, rfl, _, rfl, s, q, uf, _, rfl, Gd25.st, SqL.of hf, pf, by simp, fun p d' H' f' st' hd' pm _ => kk p d' H' (Gd25.fr.trans f') st' hd' (RowOk.perm (by simpa [otherD, k0, lst] using ok) pm)⟩
    · rw [decide_eq_false (show ¬ (k : Int) = 0 by omega)]
      obtain ⟨us28, hu28, pu28⟩ := G0.at_
      have pl28 := paired_len pu28
      refine iteF ⟨_, rfl, .inl ⟨rfl, _, SqL.of hu28⟩, _, rfl, _, _, rfl, rfl, Nat.le_of_ble_eq_true rfl, fun t28 ht28 => ?_⟩
      have St28 := same_new (o := .tup [.str "read", .int (9 + (k : Int))]) ht28
      refine ⟨q, us28, _, rfl, rfl, St28 _ _ hu28, sm _ (by simp at pl28; omega), ?_⟩
      have Gn28 := (G0.same St28).add (b := false) (x := 9 + (k : Int)) (St28 _ _ hu28) upd_same
      refine ⟨_, rfl, s, 3, rfl, by decide, by decide, Gn28.st, fun x29 Hd29 xa29 xb29 fd29 sd29 => ?_⟩
      have Gd29 := Gn28.step fd29 sd29
      refine ⟨rfl, decide (x29 = 0), congrArg V.bl (by simp), ?_⟩
      by_cases a29 : x29 = 0
      · rw [decide_eq_true a29]
        obtain ⟨us30, hu30, pu30⟩ := Gd29.at_
        have pl30 := paired_len pu30
        refine iteT ⟨_, rfl, .inl ⟨rfl, _, SqL.of hu30⟩, Nat.le_of_ble_eq_true rfl, fun t30 ht30 => ?_⟩
        have St30 := same_new (o := .tup [.str "write", .int (2)]) ht30
        refine ⟨q, us30, _, rfl, rfl, St30 _ _ hu30, sm _ (by simp at pl30; omega), ?_⟩
        have Gn30 := (Gd29.same St30).add (b := true) (x := 2) (St30 _ _ hu30) upd_same
        refine ⟨_, rfl, _, rfl, _, _, rfl, rfl, rfl, decide ((k : Int) = (n : Int) - 1), congrArg V.bl (by simp), ?_⟩
        by_cases lst : (k : Int) = (n : Int) - 1
        · rw [decide_eq_true lst]
          obtain ⟨us31, hu31, pu31⟩ := Gn30.at_
          have pl31 := paired_len pu31
          refine iteT (iteT ⟨_, rfl, .inl ⟨rfl, _, SqL.of hu31⟩, Nat.le_of_ble_eq_true rfl, fun t31 ht31 => ?_⟩)
          have St31 := same_new (o := .tup [.str "read", .int (1)]) ht31
          refine ⟨q, us31, _, rfl, rfl, St31 _ _ hu31, sm _ (by simp at pl31; omega), ?_⟩
          have Gn31 := (Gn30.same St31).add (b := false) (x := 1) (St31 _ _ hu31) upd_same
          refine ⟨_, rfl, s, 4, rfl, by decide, by decide, Gn31.st, fun x32 Hd32 xa32 xb32 fd32 sd32 => ?_⟩
          have Gd32 := Gn31.step fd32 sd32
          refine ⟨rfl, decide (x32 = 0), congrArg V.bl (by simp), ?_⟩
          by_cases a32 : x32 = 0
          · rw [decide_eq_true a32]
            obtain ⟨us33, hu33, pu33⟩ := Gd32.at_
            have pl33 := paired_len pu33
            refine iteT ⟨_, rfl, .inl ⟨rfl, _, SqL.of hu33⟩, Nat.le_of_ble_eq_true rfl, fun rw33 hrw33 => ?_⟩
            have Sr33 := same_new (o := .lst [.str "read", .str "write"]) hrw33
            have Gr33 := Gd32.same Sr33
            refine ⟨_, rfl, s, 2, rfl, by decide, by decide, Gr33.st, fun x34 Hd34 xa34 xb34 fd34 sd34 => ?_⟩
            have Gd34 := Gr33.step fd34 sd34
            have nr33 : rw33 ≠ s := fun z => by obtain ⟨xs, hx⟩ := Gd32.st.lst; rw [z, hx] at hrw33; cases hrw33
            have hr33 := fd34 _ _ upd_same nr33
            have hu233 := fd34 _ _ (Sr33 _ _ hu33) Gd32.ne
            have cs33 : x34 = 0 ∨ x34 = 1 := by omega
            rcases cs33 with z33 | z33
            · subst z33
              refine ⟨rw33, _, _, .str "read", rfl, rfl, SqL.of hr33, rfl, _, rfl, _, _, rfl, rfl, Nat.le_of_ble_eq_true rfl, fun tt33 htt33 => ?_⟩
              have Stt33 := same_new (o := .tup [.str "read", .int (30 + (k : Int))]) htt33
              refine ⟨q, us33, _, rfl, rfl, Stt33 _ _ hu233, sm _ (by simp at pl33; omega), ?_⟩
              have Gz33 := (Gd34.same Stt33).add (b := false) (x := 30 + (k : Int)) (Stt33 _ _ hu233) upd_same
              obtain ⟨uf, hf, pf⟩ := Gz33.at_
              have ok := otherD_ok hk hn true false true false
              rw [decide_eq_true lst] at ok
              refine ⟨_, rfl, _, rfl, s, q, uf, _, rfl, Gz33.st, SqL.of hf, pf, by simp, fun p d' H' f' st' hd' pm _ => kk p d' H' (Gz33.fr.trans f') st' hd' (RowOk.perm (by simpa [otherD, k0, lst] using ok) pm)⟩
            · subst z33
              refine ⟨rw33, _, _, .str "write", rfl, rfl, SqL.of hr33, rfl, _, rfl, _, _, rfl, rfl, Nat.le_of_ble_eq_true rfl, fun tt33 htt33 => ?_⟩
              have Stt33 := same_new (o := .tup [.str "write", .int (30 + (k : Int))]) htt33
              refine ⟨q, us33, _, rfl, rfl, Stt33 _ _ hu233, sm _ (by simp at pl33; omega), ?_⟩
              have Gz33 := (Gd34.same Stt33).add (b := true) (x := 30 + (k : Int)) (Stt33 _ _ hu233) upd_same
              obtain ⟨uf, hf, pf⟩ := Gz33.at_
              have ok := otherD_ok hk hn true false true true
              rw [decide_eq_true lst] at ok
              refine ⟨_, rfl, _, rfl, s, q, uf, _, rfl, Gz33.st, SqL.of hf, pf, by simp, fun p d' H' f' st' hd' pm _ => kk p d' H' (Gz33.fr.trans f') st' hd' (RowOk.perm (by simpa [otherD, k0, lst] using ok) pm)⟩
          · rw [decide_eq_false a32]
            refine iteF ?_
            obtain ⟨uf, hf, pf⟩ := Gd32.at_
            have ok := otherD_ok hk hn true false false true
            rw [decide_eq_true lst] at ok
            refine ⟨_, rfl, _, rfl, s, q, uf, _, rfl, Gd32.st, SqL.of hf, pf, by simp, fun p d' H' f' st' hd' pm _ => kk p d' H' (Gd32.fr.trans f') st' hd' (RowOk.perm (by simpa [otherD, k0, lst] using ok) pm)⟩
        · rw [decide_eq_false lst]
          refine iteF ?_
          refine ⟨_, rfl, s, 3, rfl, by decide, by decide, Gn30.st, fun x35 Hd35 xa35 xb35 fd35 sd35 => ?_⟩
          have Gd35 := Gn30.step fd35 sd35
          refine ⟨rfl, decide (x35 = 0), congrArg V.bl (by simp), ?_⟩
          by_cases a35 : x35 = 0
          · rw [decide_eq_true a35]
            obtain ⟨us36, hu36, pu36⟩ := Gd35.at_
            have pl36 := paired_len pu36
            refine iteT ⟨_, rfl, .inl ⟨rfl, _, SqL.of hu36⟩, Nat.le_of_ble_eq_true rfl, fun t36 ht36 => ?_⟩
            have St36 := same_new (o := .tup [.str "read", .int (1)]) ht36
            refine ⟨q, us36, _, rfl, rfl, St36 _ _ hu36, sm _ (by simp at pl36; omega), ?_⟩
            have Gn36 := (Gd35.same St36).add (b := false) (x := 1) (St36 _ _ hu36) upd_same
            refine ⟨_, rfl, s, 4, rfl, by decide, by decide, Gn36.st, fun x37 Hd37 xa37 xb37 fd37 sd37 => ?_⟩
            have Gd37 := Gn36.step fd37 sd37
            refine ⟨rfl, decide (x37 = 0), congrArg V.bl (by simp), ?_⟩
            by_cases a37 : x37 = 0
            · rw [decide_eq_true a37]
              obtain ⟨us38, hu38, pu38⟩ := Gd37.at_
              have pl38 := paired_len pu38
              refine iteT ⟨_, rfl, .inl ⟨rfl, _, SqL.of hu38⟩, Nat.le_of_ble_eq_true rfl, fun rw38 hrw38 => ?_⟩
              have Sr38 := same_new (o := .lst [.str "read", .str "write"]) hrw38
              have Gr38 := Gd37.same Sr38
              refine ⟨_, rfl, s, 2, rfl, by decide, by decide, Gr38.st, fun x39 Hd39 xa39 xb39 fd39 sd39 => ?_⟩
              have Gd39 := Gr38.step fd39 sd39
              have nr38 : rw38 ≠ s := fun z => by obtain ⟨xs, hx⟩ := Gd37.st.lst; rw [z, hx] at hrw38; cases hrw38
              have hr38 := fd39 _ _ upd_same nr38
              have hu238 := fd39 _ _ (Sr38 _ _ hu38) Gd37.ne
              have cs38 : x39 = 0 ∨ x39 = 1 := by omega
              rcases cs38 with z38 | z38
              · subst z38
                refine ⟨rw38, _, _, .str "read", rfl, rfl, SqL.of hr38, rfl, _, rfl, _, _, rfl, rfl, Nat.le_of_ble_eq_true rfl, fun tt38 htt38 => ?_⟩
                have Stt38 := same_new (o := .tup [.str "read", .int (30 + (k : Int))]) htt38
                refine ⟨q, us38, _, rfl, rfl, Stt38 _ _ hu238, sm _ (by simp at pl38; omega), ?_⟩
                have Gz38 := (Gd39.same Stt38).add (b := false) (x := 30 + (k : Int)) (Stt38 _ _ hu238) upd_same
                obtain ⟨uf, hf, pf⟩ := Gz38.at_
                have ok := otherD_ok hk hn true true true false
                rw [decide_eq_false lst] at ok
                refine ⟨_, rfl, _, rfl, s, q, uf, _, rfl, Gz38.st, SqL.of hf, pf, by simp, fun p d' H' f' st' hd' pm _ => kk p d' H' (Gz38.fr.trans f') st' hd' (RowOk.perm (by simpa [otherD, k0, lst] using ok) pm)⟩
              · subst z38
                refine ⟨rw38, _, _, .str "write", rfl, rfl, SqL.of hr38, rfl, _, rfl, _, _, rfl, rfl, Nat.le_of_ble_eq_true rfl, fun tt38 htt38 => ?_⟩
                have Stt38 := same_new (o := .tup [.str "write", .int (30 + (k : Int))]) htt38
                refine ⟨q, us38, _, rfl, rfl, Stt38 _ _ hu238, sm _ (by simp at pl38; omega), ?_⟩
                have Gz38 := (Gd39.same Stt38).add (b := true) (x := 30 + (k : Int)) (Stt38 _ _ hu238) upd_same
                obtain ⟨uf, hf, pf⟩ := Gz38.at_
                have ok := otherD_ok hk hn true true true true
                rw [decide_eq_false lst] at ok
                refine ⟨_, rfl, _, rfl, s, q, uf, _, rfl, Gz38.st, SqL.of hf, pf, by simp, fun p d' H' f' st' hd' pm _ => kk p d' H' (Gz38.fr.trans f') st' hd' (RowOk.perm (by simpa [otherD, k0, lst] using ok) pm)⟩
            · rw [decide_eq_false a37]
              refine iteF ?_
              obtain ⟨uf, hf, pf⟩ := Gd37.at_
              have ok := otherD_ok hk hn true true false true
              rw [decide_eq_false lst] at ok
              refine ⟨_, rfl, _, rfl, s, q, uf, _, rfl, Gd37.st, SqL.of hf, pf, by simp, fun p d' H' f' st' hd' pm _ => kk p d' H' (Gd37.fr.trans f') st' hd' (RowOk.perm (by simpa [otherD, k0, lst] using ok) pm)⟩
          · rw [decide_eq_false a35]
            refine iteF ?_
            refine ⟨_, rfl, s, 4, rfl, by decide, by decide, Gd35.st, fun x40 Hd40 xa40 xb40 fd40 sd40 => ?_⟩
            have Gd40 := Gd35.step fd40 sd40
            refine ⟨rfl, decide (x40 = 0), congrArg V.bl (by simp), ?_⟩
            by_cases a40 : x40 = 0
            · rw [decide_eq_true a40]
              obtain ⟨us41, hu41, pu41⟩ := Gd40.at_
              have pl41 := paired_len pu41
              refine iteT ⟨_, rfl, .inl ⟨rfl, _, SqL.of hu41⟩, Nat.le_of_ble_eq_true rfl, fun rw41 hrw41 => ?_⟩
              have Sr41 := same_new (o := .lst [.str "read", .str "write"]) hrw41
              have Gr41 := Gd40.same Sr41
              refine ⟨_, rfl, s, 2, rfl, by decide, by decide, Gr41.st, fun x42 Hd42 xa42 xb42 fd42 sd42 => ?_⟩
              have Gd42 := Gr41.step fd42 sd42
              have nr41 : rw41 ≠ s := fun z => by obtain ⟨xs, hx⟩ := Gd40.st.lst; rw [z, hx] at hrw41; cases hrw41
              have hr41 := fd42 _ _ upd_same nr41
              have hu241 := fd42 _ _ (Sr41 _ _ hu41) Gd40.ne
              have cs41 : x42 = 0 ∨ x42 = 1 := by omega
              rcases cs41 with z41 | z41
              · subst z41
                refine ⟨rw41, _, _, .str "read", rfl, rfl, SqL.of hr41, rfl, _, rfl, _, _, rfl, rfl, Nat.le_of_ble_eq_true rfl, fun tt41 htt41 => ?_⟩
                have Stt41 := same_new (o := .tup [.str "read", .int (30 + (k : Int))]) htt41
                refine ⟨q, us41, _, rfl, rfl, Stt41 _ _ hu241, sm _ (by simp at pl41; omega), ?_⟩
                have Gz41 := (Gd42.same Stt41).add (b := false) (x := 30 + (k : Int)) (Stt41 _ _ hu241) upd_same
                obtain ⟨uf, hf, pf⟩ := Gz41.at_
                have ok := otherD_ok hk hn true false true false
                rw [decide_eq_false lst] at ok
                refine ⟨_, rfl, _, rfl, s, q, uf, _, rfl, Gz41.st, SqL.of hf, pf, by simp, fun p d' H' f' st' hd' pm _ => kk p d' H' (Gz41.fr.trans f') st' hd' (RowOk.perm (by simpa [otherD, k0, lst] using ok) pm)⟩
              · subst z41
                refine ⟨rw41, _, _, .str "write", rfl, rfl, SqL.of hr41, rfl, _, rfl, _, _, rfl, rfl, Nat.le_of_ble_eq_true rfl, fun tt41 htt41 => ?_⟩
                have Stt41 := same_new (o := .tup [.str "write", .int (30 + (k : Int))]) htt41
                refine ⟨q, us41, _, rfl, rfl, Stt41 _ _ hu241, sm _ (by simp at pl41; omega), ?_⟩
                have Gz41 := (Gd42.same Stt41).add (b := true) (x := 30 + (k : Int)) (Stt41 _ _ hu241) upd_same
                obtain ⟨uf, hf, pf⟩ := Gz41.at_
                have ok := otherD_ok hk hn true false true true
                rw [decide_eq_false lst] at ok
                refine ⟨_, rfl, _, rfl, s, q, uf, _, rfl, Gz41.st, SqL.of hf, pf, by simp, fun p d' H' f' st' hd' pm _ => kk p d' H' (Gz41.fr.trans f') st' hd' (RowOk.perm (by simpa [otherD, k0, lst] using ok) pm)⟩
            · rw [decide_eq_false a40]
              refine iteF ?_
              obtain ⟨uf, hf, pf⟩ := Gd40.at_
              have ok := otherD_ok hk hn true false false true
              rw [decide_eq_false lst] at ok
              refine ⟨_, rfl, _, rfl, s, q, uf, _, rfl, Gd40.st, SqL.of hf, pf, by simp, fun p d' H' f' st' hd' pm _ => kk p d' H' (Gd40.fr.trans f') st' hd' (RowOk.perm (by simpa [otherD, k0, lst] using ok) pm)⟩
      · rw [decide_eq_false a29]
        refine iteF ?_
        refine ⟨_, rfl, _, rfl, _, _, rfl, rfl, rfl, decide ((k : Int) = (n : Int) - 1), congrArg V.bl (by simp), ?_⟩
        by_cases lst : (k : Int) = (n : Int) - 1
        · rw [decide_eq_true lst]
          obtain ⟨us43, hu43, pu43⟩ := Gd29.at_
          have pl43 := paired_len pu43
          refine iteT (iteT ⟨_, rfl, .inl ⟨rfl, _, SqL.of hu43⟩, Nat.le_of_ble_eq_true rfl, fun t43 ht43 => ?_⟩)
          have St43 := same_new (o := .tup [.str "read", .int (1)]) ht43
          refine ⟨q, us43, _, rfl, rfl, St43 _ _ hu43, sm _ (by simp at pl43; omega), ?_⟩
          have Gn43 := (Gd29.same St43).add (b := false) (x := 1) (St43 _ _ hu43) upd_same
          refine ⟨_, rfl, s, 4, rfl, by decide, by decide, Gn43.st, fun x44 Hd44 xa44 xb44 fd44 sd44 => ?_⟩
          have Gd44 := Gn43.step fd44 sd44
          refine ⟨rfl, decide (x44 = 0), congrArg V.bl (by simp), ?_⟩
          by_cases a44 : x44 = 0
          · rw [decide_eq_true a44]
            obtain ⟨us45, hu45, pu45⟩ := Gd44.at_
            have pl45 := paired_len pu45
            refine iteT ⟨_, rfl, .inl ⟨rfl, _, SqL.of hu45⟩, Nat.le_of_ble_eq_true rfl, fun rw45 hrw45 => ?_⟩
            have Sr45 := same_new (o := .lst [.str "read", .str "write"]) hrw45
            have Gr45 := Gd44.same Sr45
            refine ⟨_, rfl, s, 2, rfl, by decide, by decide, Gr45.st, fun x46 Hd46 xa46 xb46 fd46 sd46 => ?_⟩
            have Gd46 := Gr45.step fd46 sd46
            have nr45 : rw45 ≠ s := fun z => by obtain ⟨xs, hx⟩ := Gd44.st.lst; rw [z, hx] at hrw45; cases hrw45
            have hr45 := fd46 _ _ upd_same nr45
            have hu245 := fd46 _ _ (Sr45 _ _ hu45) Gd44.ne
            have cs45 : x46 = 0 ∨ x46 = 1 := by omega
            rcases cs45 with z45 | z45
            · subst z45
              refine ⟨rw45, _, _, .str "read", rfl, rfl, SqL.of hr45, rfl, _, rfl, _, _, rfl, rfl, Nat.le_of_ble_eq_true rfl, fun tt45 htt45 => ?_⟩
              have Stt45 := same_new (o := .tup [.str "read", .int (30 + (k : Int))]) htt45
              refine ⟨q, us45, _, rfl, rfl, Stt45 _ _ hu245, sm _ (by simp at pl45; omega), ?_⟩
              have Gz45 := (Gd46.same Stt45).add (b := false) (x := 30 + (k : Int)) (Stt45 _ _ hu245) upd_same
              obtain ⟨uf, hf, pf⟩ := Gz45.at_
              have ok := otherD_ok hk hn false false true false
              rw [decide_eq_true lst] at ok
              refine ⟨_, rfl, _, rfl, s, q, uf, _, rfl, Gz45.st, SqL.of hf, pf, by simp, fun p d' H' f' st' hd' pm _ => kk p d' H' (Gz45.fr.trans f') st' hd' (RowOk.perm (by simpa [otherD, k0, lst] using ok) pm)⟩
            · subst z45
              refine ⟨rw45, _, _, .str "write", rfl, rfl, SqL.of hr45, rfl, _, rfl, _, _, rfl, rfl, Nat.le_of_ble_eq_true rfl, fun tt45 htt45 => ?_⟩
              have Stt45 := same_new (o := .tup [.str "write", .int (30 + (k : Int))]) htt45
              refine ⟨q, us45, _, rfl, rfl, Stt45 _ _ hu245, sm _ (by simp at pl45; omega), ?_⟩
              have Gz45 := (Gd46.same Stt45).add (b := true) (x := 30 + (k : Int)) (Stt45 _ _ hu245) upd_same
              obtain ⟨uf, hf, pf⟩ := Gz45.at_
              have ok := otherD_ok hk hn false false true true
              rw [decide_eq_true lst] at ok
              refine ⟨_, rfl, _, rfl, s, q, uf, _, rfl, Gz45.st, SqL.of hf, pf, by simp, fun p d' H' f' st' hd' pm _ => kk p d' H' (Gz45.fr.trans f') st' hd' (RowOk.perm (by simpa [otherD, k0, lst] using ok) pm)⟩
          · rw [decide_eq_false a44]
            refine iteF ?_
            obtain ⟨uf, hf, pf⟩ := Gd44.at_
            have ok := otherD_ok hk hn false false false true
            rw [decide_eq_true lst] at ok
            refine ⟨_, rfl, _, rfl, s, q, uf, _, rfl, Gd44.st, SqL.of hf, pf, by simp, fun p d' H' f' st' hd' pm _ => kk p d' H' (Gd44.fr.trans f') st' hd' (RowOk.perm (by simpa [otherD, k0, lst] using ok) pm)⟩
        · rw [decide_eq_false lst]
          refine iteF ?_
          refine ⟨_, rfl, s, 3, rfl, by decide, by decide, Gd29.st, fun x47 Hd47 xa47 xb47 fd47 sd47 => ?_⟩
          have Gd47 := Gd29.step fd47 sd47
          refine ⟨rfl, decide (x47 = 0), congrArg V.bl (by simp), ?_⟩
          by_cases a47 : x47 = 0
          · rw [decide_eq_true a47]
            obtain ⟨us48, hu48, pu48⟩ := Gd47.at_
            have pl48 := paired_len pu48
            refine iteT ⟨_, rfl, .inl ⟨rfl, _, SqL.of hu48⟩, Nat.le_of_ble_eq_true rfl, fun t48 ht48 => ?_⟩
            have St48 := same_new (o := .tup [.str "read", .int (1)]) ht48
            refine ⟨q, us48, _, rfl, rfl, St48 _ _ hu48, sm _ (by simp at pl48; omega), ?_⟩
            have Gn48 := (Gd47.same St48).add (b := false) (x := 1) (St48 _ _ hu48) upd_same
            refine ⟨_, rfl, s, 4, rfl, by decide, by decide, Gn48.st, fun x49 Hd49 xa49 xb49 fd49 sd49 => ?_⟩
            have Gd49 := Gn48.step fd49 sd49
            refine ⟨rfl, decide (x49 = 0), congrArg V.bl (by simp), ?_⟩
            by_cases a49 : x49 = 0
            · rw [decide_eq_true a49]
              obtain ⟨us50, hu50, pu50⟩ := Gd49.at_
              have pl50 := paired_len pu50
              refine iteT ⟨_, rfl, .inl ⟨rfl, _, SqL.of hu50⟩, Nat.le_of_ble_eq_true rfl, fun rw50 hrw50 => ?_⟩
              have Sr50 := same_new (o := .lst [.str "read", .str "write"]) hrw50
              have Gr50 := Gd49.same Sr50
              refine ⟨_, rfl, s, 2, rfl, by decide, by decide, Gr50.st, fun x51 Hd51 xa51 xb51 fd51 sd51 => ?_⟩
              have Gd51 := Gr50.step fd51 sd51
              have nr50 : rw50 ≠ s := fun z => by obtain ⟨xs, hx⟩ := Gd49.st.lst; rw [z, hx] at hrw50; cases hrw50
              have hr50 := fd51 _ _ upd_same nr50
              have hu250 := fd51 _ _ (Sr50 _ _ hu50) Gd49.ne
              have cs50 : x51 = 0 ∨ x51 = 1 := by omega
              rcases cs50 with z50 | z50
              · subst z50
                refine ⟨rw50, _, _, .str "read", rfl, rfl, SqL.of hr50, rfl, _, rfl, _, _, rfl, rfl, Nat.le_of_ble_eq_true rfl, fun tt50 htt50 => ?_⟩
                have Stt50 := same_new (o := .tup [.str "read", .int (30 + (k : Int))]) htt50
                refine ⟨q, us50, _, rfl, rfl, Stt50 _ _ hu250, sm _ (by simp at pl50; omega), ?_⟩
                have Gz50 := (Gd51.same Stt50).add (b := false) (x := 30 + (k : Int)) (Stt50 _ _ hu250) upd_same
                obtain ⟨uf, hf, pf⟩ := Gz50.at_
                have ok := otherD_ok hk hn false true true false
                rw [decide_eq_false lst] at ok
                refine ⟨_, rfl, _, rfl, s, q, uf, _, rfl, Gz50.st, SqL.of hf, pf, by simp, fun p d' H' f' st' hd' pm _ => kk p d' H' (Gz50.fr.trans f') st' hd' (RowOk.perm (by simpa [otherD, k0, lst] using ok) pm)⟩
              · subst z50
                refine ⟨rw50, _, _, .str "write", rfl, rfl, SqL.of hr50, rfl, _, rfl, _, _, rfl, rfl, Nat.le_of_ble_eq_true rfl, fun tt50 htt50 => ?_⟩
                have Stt50 := same_new (o := .tup [.str "write", .int (30 + (k : Int))]) htt50
                refine ⟨q, us50, _, rfl, rfl, Stt50 _ _ hu250, sm _ (by simp at pl50; omega), ?_⟩
                have Gz50 := (Gd51.same Stt50).add (b := true) (x := 30 + (k : Int)) (Stt50 _ _ hu250) upd_same
                obtain ⟨uf, hf, pf⟩ := Gz50.at_
                have ok := otherD_ok hk hn false true true true
                rw [decide_eq_false lst] at ok
                refine ⟨_, rfl, _, rfl, s, q, uf, _, rfl, Gz50.st, SqL.of hf, pf, by simp, fun p d' H' f' st' hd' pm _ => kk p d' H' (Gz50.fr.trans f') st' hd' (RowOk.perm (by simpa [otherD, k0, lst] using ok) pm)⟩
            · rw [decide_eq_false a49]
              refine iteF ?_
              obtain ⟨uf, hf, pf⟩ := Gd49.at_
              have ok := otherD_ok hk hn false true false true
              rw [decide_eq_false lst] at ok
              refine ⟨_, rfl, _, rfl, s, q, uf, _, rfl, Gd49.st, SqL.of hf, pf, by simp, fun p d' H' f' st' hd' pm _ => kk p d' H' (Gd49.fr.trans f') st' hd' (RowOk.perm (by simpa [otherD, k0, lst] using ok) pm)⟩
          · rw [decide_eq_false a47]
            refine iteF ?_
            refine ⟨_, rfl, s, 4, rfl, by decide, by decide, Gd47.st, fun x52 Hd52 xa52 xb52 fd52 sd52 => ?_⟩
            have Gd52 := Gd47.step fd52 sd52
            refine ⟨rfl, decide (x52 = 0), congrArg V.bl (by simp), ?_⟩
            by_cases a52 : x52 = 0
            · rw [decide_eq_true a52]
              obtain ⟨us53, hu53, pu53⟩ := Gd52.at_
              have pl53 := paired_len pu53
              refine iteT ⟨_, rfl, .inl ⟨rfl, _, SqL.of hu53⟩, Nat.le_of_ble_eq_true rfl, fun rw53 hrw53 => ?_⟩
              have Sr53 := same_new (o := .lst [.str "read", .str "write"]) hrw53
              have Gr53 := Gd52.same Sr53
              refine ⟨_, rfl, s, 2, rfl, by decide, by decide, Gr53.st, fun x54 Hd54 xa54 xb54 fd54 sd54 => ?_⟩
              have Gd54 := Gr53.step fd54 sd54
              have nr53 : rw53 ≠ s := fun z => by obtain ⟨xs, hx⟩ := Gd52.st.lst; rw [z, hx] at hrw53; cases hrw53
              have hr53 := fd54 _ _ upd_same nr53
              have hu253 := fd54 _ _ (Sr53 _ _ hu53) Gd52.ne
              have cs53 : x54 = 0 ∨ x54 = 1 := by omega
              rcases cs53 with z53 | z53
              · subst z53
                refine ⟨rw53, _, _, .str "read", rfl, rfl, SqL.of hr53, rfl, _, rfl, _, _, rfl, rfl, Nat.le_of_ble_eq_true rfl, fun tt53 htt53 => ?_⟩
                have Stt53 := same_new (o := .tup [.str "read", .int (30 + (k : Int))]) htt53
                refine ⟨q, us53, _, rfl, rfl, Stt53 _ _ hu253, sm _ (by simp at pl53; omega), ?_⟩
                have Gz53 := (Gd54.same Stt53).add (b := false) (x := 30 + (k : Int)) (Stt53 _ _ hu253) upd_same
                obtain ⟨uf, hf, pf⟩ := Gz53.at_
                have ok := otherD_ok hk hn false false true false
                rw [decide_eq_false lst] at ok
                refine ⟨_, rfl, _, rfl, s, q, uf, _, rfl, Gz53.st, SqL.of hf, pf, by simp, fun p d' H' f' st' hd' pm _ => kk p d' H' (Gz53.fr.trans f') st' hd' (RowOk.perm (by simpa [otherD, k0, lst] using ok) pm)⟩
              · subst z53
                refine ⟨rw53, _, _, .str "write", rfl, rfl, SqL.of hr53, rfl, _, rfl, _, _, rfl, rfl, Nat.le_of_ble_eq_true rfl, fun tt53 htt53 => ?_⟩
                have Stt53 := same_new (o := .tup [.str "write", .int (30 + (k : Int))]) htt53
                refine ⟨q, us53, _, rfl, rfl, Stt53 _ _ hu253, sm _ (by simp at pl53; omega), ?_⟩
                have Gz53 := (Gd54.same Stt53).add (b := true) (x := 30 + (k : Int)) (Stt53 _ _ hu253) upd_same
                obtain ⟨uf, hf, pf⟩ := Gz53.at_
                have ok := otherD_ok hk hn false false true true
                rw [decide_eq_false lst] at ok
                refine ⟨_, rfl, _, rfl, s, q, uf, _, rfl, Gz53.st, SqL.of hf, pf, by simp, fun p d' H' f' st' hd' pm _ => kk p d' H' (Gz53.fr.trans f') st' hd' (RowOk.perm (by simpa [otherD, k0, lst] using ok) pm)⟩
            · rw [decide_eq_false a52]
              refine iteF ?_
              obtain ⟨uf, hf, pf⟩ := Gd52.at_
              have ok := otherD_ok hk hn false false false true
              rw [decide_eq_false lst] at ok
              refine ⟨_, rfl, _, rfl, s, q, uf, _, rfl, Gd52.st, SqL.of hf, pf, by simp, fun p d' H' f' st' hd' pm _ => kk p d' H' (Gd52.fr.trans f') st' hd' (RowOk.perm (by simpa [otherD, k0, lst] using ok) pm)⟩
end
end K60

set_option Elab.async false
set_option linter.all false
set_option maxRecDepth 100000
set_option maxHeartbeats 8000000
/-! K61K: the law's levels, and what it takes as due. -/
namespace K60
open PySem L2 PySem.Spec
def dueW : List (Deal × Lv) → Bool → Bool
  | [], _ => false
  | (d, l) :: r, a => if l = .whole then (if (a || decide ((true, 0) ∈ d) || decide ((true, 2) ∈ d)) && decide ((false, 1) ∈ d) then true else dueW r (a || decide ((true, 0) ∈ d) || decide ((true, 2) ∈ d))) else dueW r a
theorem dueW_cons (d : Deal) (l : Lv) (r : List (Deal × Lv)) (a : Bool) : dueW ((d, l) :: r) a = if l = .whole then (if (a || decide ((true, 0) ∈ d) || decide ((true, 2) ∈ d)) && decide ((false, 1) ∈ d) then true else dueW r (a || decide ((true, 0) ∈ d) || decide ((true, 2) ∈ d))) else dueW r a := rfl
def dueV (l0 : Lv) (r : List (Deal × Lv)) : V := if (decide (l0 = .whole) && dueW r false) = true then .str "barred" else .non
section
variable {P : Program} {w : World} {K : PySem.W.Frag} {mg : Str → Option Value} {base : Heap} {cC cE cR : Addr}
theorem lv_get (x : Int) (h0 : 0 ≤ x) (h1 : x < 6) : ∃ l : Lv, atI [V.str "whole", V.str "whole", V.str "whole", V.str "still", V.str "lax", V.str "whole"] x = some (.str (lvS l)) := by
  have : x = 0 ∨ x = 1 ∨ x = 2 ∨ x = 3 ∨ x = 4 ∨ x = 5 := by omega
  rcases this with e | e | e | e | e | e <;> subst e
  · exact ⟨.whole, rfl⟩
  · exact ⟨.whole, rfl⟩
  · exact ⟨.whole, rfl⟩
  · exact ⟨.still, rfl⟩
  · exact ⟨.lax, rfl⟩
  · exact ⟨.whole, rfl⟩
def spLawLv (K : PySem.W.Frag) : Sp := fun vs H Q _ => ∃ (s : Addr) (n : Nat), vs = [.ref s, .int (n : Nat)] ∧ n ≤ 10 ∧ StOk H s ∧
  ∀ p (ls : List Lv) H', Fr s H H' → StOk H' s → p ≠ s → H p = none → H' p = some (.lst (ls.map fun l => V.str (lvS l))) → ls.length = n → Q (.ref p) H'
theorem ok_law_levels {f : Addr} {fd : FuncData} (F : Fun K "_law_levels" "_law_levels" s_law_levels f fd) (T : Facts K mg cC cE cR) (c1 : C8.Cal P w K mg base 1 "_law_digit" spDigit []) : FnOk P w K mg base CX0 2 f fd ["_law_state", "_law_many"] (spLawLv K) := by
  refine F.ok sc_law_levels (fun vs H Q E h => ?_) (fun cdv A outer sh H vs Q E hr h => ?_)
  · obtain ⟨s, n, rfl, _⟩ := h; rfl
  · obtain ⟨s, n, rfl, hn, hs, k⟩ := h
    have nd := sc_law_levels.nd
    refine ⟨_, pss_one (ps_ret (pe_lc (own := [("_law_k", 2)]) (g := gName 2) (tt := tYes) (te := tOp (rIxL K) (tLst (tCons (tC (.str "whole")) (tCons (tC (.str "whole")) (tCons (tC (.str "whole")) (tCons (tC (.str "still")) (tCons (tC (.str "lax")) (tCons (tC (.str "whole")) tNil))))))) (tCall spDigit [] C8.E0 (tCons (tVar 0) (tCons (tC (.int 6)) tNil)))) rfl nd (pi_range1 (by rfl) T.z_range (pa_cons (pv 1) pa_nil)) (blkOk_by (own := [("_law_k", 2)]) (N := ["_law_state", "_law_many", "_law_k"]) (sc := defScope s_law_levels) (by decide +kernel))
      (fun _ _ _ _ _ => pg_name (i := 2) nd rfl (Or.inl rfl)) (fun _ _ _ _ _ => pts_nil) (fun _ _ _ _ _ => pe_ix ix_list (pe_lst (pa_cons pe_str (pa_cons pe_str (pa_cons pe_str (pa_cons pe_str (pa_cons pe_str (pa_cons pe_str pa_nil))))))) (C8.pe_c c1 hr (by decide) rfl (pa_cons (pv 0) (pa_cons pe_int pa_nil))) (fun _ _ => rfl)))), ?_⟩
    obtain ⟨sl0, hs0⟩ := hs.lst
    refine ⟨_, rfl, _, rfl, by omega, by omega, fun D hD => lc_range (n := (n : Int).toNat) (fun i H' => Fr s H H' ∧ StOk H' s ∧ ∃ ls : List Lv, H' D = some (.lst (ls.map fun l => V.str (lvS l))) ∧ ls.length = i) ⟨Fr.of (same_new hD), hs.same (same_new hD), [], upd_same, rfl⟩ ?_ ?_⟩
    · rintro i H2 hi ⟨f2, st2, ls, h2, hl⟩
      have nDs : D ≠ s := fun z => by rw [z, hs0] at hD; cases hD
      refine ⟨rfl, yesT ⟨Nat.le_of_ble_eq_true rfl, fun p hp => ⟨_, rfl, s, 6, rfl, by decide, by decide, st2.same (same_new hp), fun x H3 x0 x1 f3 st3 => ?_⟩⟩⟩
      have Sp := same_new (o := .lst [.str "whole", .str "whole", .str "whole", .str "still", .str "lax", .str "whole"]) hp
      obtain ⟨xs2, hs2⟩ := st2.lst
      have nps : p ≠ s := fun z => by rw [z, hs2] at hp; cases hp
      obtain ⟨l, hlx⟩ := lv_get x x0 x1
      have hD3 := f3 _ _ (Sp _ _ h2) nDs
      refine ⟨p, _, _, _, rfl, rfl, SqL.of (f3 _ _ upd_same nps), hlx, _, hD3, ?_, fun a o ha n => ?_, ?_, ls ++ [l], ?_, by simp [hl]⟩
      · rw [List.length_map]; exact small1000 (by omega)
      · rw [upd_ne (fun z => by rw [z, hD] at ha; cases ha)]
        exact f3 _ _ (Sp _ _ (f2 _ _ ha n)) n
      · rcases st3 with ⟨c, h⟩ | ⟨x, y, z, h⟩
        · exact .inl ⟨c, by rw [upd_ne nDs.symm]; exact h⟩
        · exact .inr ⟨x, y, z, by rw [upd_ne nDs.symm]; exact h⟩
      · rw [upd_same, List.map_append]; rfl
    · rintro H2 ⟨f2, st2, ls, h2, hl⟩
      exact k D ls H2 f2 st2 (fun z => by rw [z, hs0] at hD; cases hD) hD h2 (by omega)
def spLawDue (K : PySem.W.Frag) : Sp := fun vs H Q _ => ∃ (v : V) (r lp : Addr) (uv : List V) (rd : List Deal) (l0 : Lv) (ls : List Lv), vs = [v, .ref r, .ref lp] ∧ SqL K H r uv ∧ Paired (DealAt K H) uv rd ∧ SqL K H lp ((l0 :: ls).map fun l => V.str (lvS l)) ∧ rd.length = ls.length ∧
  ∀ H', Same H H' → Q (dueV l0 (rd.zip ls)) H'
theorem ok_law_due {f : Addr} {fd : FuncData} (F : Fun K "_law_due" "_law_due" s_law_due f fd) (T : Facts K mg cC cE cR) : FnOk P w K mg base CX0 1 f fd ["_law_mine", "_law_row", "_law_levels_here"] (spLawDue K) := by
  refine F.ok sc_law_due (fun vs H Q E h => ?_) (fun cdv A outer sh H vs Q E hr h => ?_)
  · obtain ⟨v, r, lp, uv, rd, l0, ls, rfl, _⟩ := h; rfl
  · obtain ⟨v, r, lp, uv, rd, l0, ls, rfl, hr0, huv, hlp, hll, k⟩ := h
    have nd := sc_law_due.nd
    have hu65 := hu65_of hr
    refine ⟨_, pss_cons (ps_if (pt_cmpR op_ne (pe_ix ix_list (pv 2) pe_int (fun _ _ => rfl)) pe_str (nomark _)) (pss_one (ps_ret pe_non)) pss_nil)
      (pss_cons (ps_set (i := 3) nd rfl (Or.inl rfl) pe_bl)
      (pss_cons (ps_for PassesOwn.never rfl (pi_zip (by rfl) T.z_zip (pa_cons (pv 1) (pa_cons (pe_slice sl_list (pv 2) (po_some pe_int) po_none) pa_nil))) (pg_tup rfl (pgs_cons (pg_name (i := 4) nd rfl (Or.inl rfl)) (pgs_cons (pg_name (i := 5) nd rfl (Or.inl rfl)) pgs_nil)))
        (pss_one (ps_if (pt_cmpR op_eq (pv 5) pe_str (nomark _))
          (pss_cons (ps_set (i := 3) nd rfl (Or.inl rfl) (pe_or (pv 3) (pe_or (pe_cmpR (op_inDT hu65) (pe_tup (pa_cons pe_str (pa_cons pe_int pa_nil))) (pv 4) (by rfl)) (pe_one (pe_cmpR (op_inDT hu65) (pe_tup (pa_cons pe_str (pa_cons pe_int pa_nil))) (pv 4) (by rfl))))))
          (pss_one (ps_if (PW.pt (pw_and (pt_val (pv 3)) (pw_and1 (pt_cmpR (op_inDT hu65) (pe_tup (pa_cons pe_str (pa_cons pe_int pa_nil))) (pv 4) (by rfl))))) (pss_one (ps_ret pe_str)) pss_nil))) pss_nil)))
      (pss_one (ps_ret pe_non)))), ?_⟩
    have hul := paired_len huv
    refine ⟨_, rfl, lp, _, _, _, rfl, rfl, hlp, atI_nat (j := 0) rfl, rfl, !decide (l0 = .whole), congrArg V.bl (by rw [lv_whole]), ?_⟩
    by_cases h0 : l0 = .whole
    case neg =>
      rw [decide_eq_false h0]
      have := k H (Same.refl H)
      unfold dueV at this
      rw [decide_eq_false h0] at this
      exact iteT this
    rw [decide_eq_true h0]
    refine iteF ?_
    have kk : ∀ H', Same H H' → Q (if dueW (rd.zip ls) false = true then .str "barred" else .non) H' := fun H' S => by
      have := k H' S
      unfold dueV at this
      rw [decide_eq_true h0, Bool.true_and] at this
      exact this
    refine ⟨_, rfl, _, rfl, 1, rfl, lp, _, rfl, hlp, fun e he => ?_⟩
    have e1 : cutV ((l0 :: ls).map fun l => V.str (lvS l)) (some 1) none = ls.map fun l => V.str (lvS l) := by
      have := cut_from ((l0 :: ls).map fun l => V.str (lvS l)) 0
      simpa using this
    rw [e1]
    have Se := same_new (o := .lst (ls.map fun l => V.str (lvS l))) he
    have hee : (upd H e (.lst (ls.map fun l => V.str (lvS l)))) e = some (.lst (ls.map fun l => V.str (lvS l))) := upd_same
    generalize upd H e (.lst (ls.map fun l => V.str (lvS l))) = H1 at Se hee ⊢
    refine ⟨r, e, uv, ls.map fun l => V.str (lvS l), rfl, Se.seq hr0, SqL.of hee, for_it (walk_zip (n := uv.length) (by rw [List.length_map]; omega)) (fun i σ H' => ∃ (a : Bool) (o4 o5 : Option V), σ = [some v, some (.ref r), some (.ref lp), some (.bl a), o4, o5] ∧ Same H1 H' ∧ dueW (rd.zip ls) false = dueW ((rd.zip ls).drop i) a)
      ⟨false, none, none, rfl, Same.refl _, rfl⟩ (fun i σ H' _ ⟨_, _, _, _, S, _⟩ => ⟨(Se.trans S).seq hr0, S.seq (SqL.of hee)⟩) ?_ ?_⟩
    · rintro i x σ H2 H3 hi ⟨a, o4, o5, rfl, S2, hd⟩ ⟨T3, x0, y0, rfl, hT3, rfl, hx0, hy0⟩
      obtain ⟨d, hd0, hdd⟩ := paired_get huv hx0
      obtain ⟨l, hl0, rfl⟩ : ∃ l, ls[i]? = some l ∧ y0 = .str (lvS l) := by
        have hy0 : (ls.map fun l => V.str (lvS l))[i]? = some y0 := hy0
        rw [List.getElem?_map] at hy0
        cases e : ls[i]? with
        | none => rw [e] at hy0; cases hy0
        | some l => rw [e] at hy0; exact ⟨l, rfl, (Option.some.inj hy0).symm⟩
      have hz : (rd.zip ls)[i]? = some (d, l) := by rw [List.getElem?_zip_eq_some]; exact ⟨hd0, hl0⟩
      have hdr : (rd.zip ls).drop i = (d, l) :: (rd.zip ls).drop (i + 1) := by
        obtain ⟨h1, h2⟩ := List.getElem?_eq_some_iff.mp hz
        rw [List.drop_eq_getElem_cons h1, h2]
      rw [hdr] at hd
      have S3 := S2.trans (same_new (o := .tup [x0, .str (lvS l)]) hT3)
      have hdd3 := hdd.mono (Se.trans S3)
      refine ⟨T3, _, rfl, SqT.of upd_same, rfl, _, _, rfl, _, _, rfl, rfl, ?_⟩
      generalize (upd H2 T3 (.tup [x0, .str (lvS l)])) = H3 at S3 hdd3
      refine ⟨_, rfl, rfl, decide (l = .whole), congrArg V.bl (lv_whole l), ?_⟩
      rw [dueW_cons] at hd
      by_cases hl : l = .whole
      · rw [decide_eq_true hl]
        rw [if_pos hl] at hd
        refine iteT ⟨_, rfl, a, rfl, ?_⟩
        cases ha : a with
        | true =>
          rw [ha] at hd
          rw [Bool.true_or, Bool.true_or, Bool.true_and] at hd
          refine iteT ⟨_, rfl, true, rfl, iteT ⟨Nat.le_of_ble_eq_true rfl, fun t4 ht4 => ⟨_, rfl, in_deal (s := (false, 1)) ⟨t4, rfl, SqT.of upd_same⟩ (hdd3.mono (same_new ht4)) ⟨_, rfl, ?_⟩⟩⟩⟩
          have S4 := S3.trans (same_new (o := .tup [.str "read", .int 1]) ht4)
          by_cases c : ((false, 1) : Stp) ∈ d
          · rw [decide_eq_true c] at hd ⊢
            have := kk _ (Se.trans S4)
            rw [hd] at this
            exact iteT this
          · rw [decide_eq_false c] at hd ⊢
            exact iteF ⟨true, _, _, rfl, S4, hd⟩
        | false =>
          rw [ha] at hd
          rw [Bool.false_or] at hd
          refine iteF ⟨Nat.le_of_ble_eq_true rfl, fun t5 ht5 => ⟨_, rfl, in_deal (s := (true, 0)) ⟨t5, rfl, SqT.of upd_same⟩ (hdd3.mono (same_new ht5)) ⟨decide (((true, 0) : Stp) ∈ d), rfl, ?_⟩⟩⟩
          have S5 := S3.trans (same_new (o := .tup [.str "write", .int 0]) ht5)
          have hdd5 := hdd3.mono (same_new (o := .tup [.str "write", .int 0]) ht5)
          generalize (upd H3 t5 (.tup [.str "write", .int 0])) = H5 at S5 hdd5 ⊢
          by_cases c0 : ((true, 0) : Stp) ∈ d
          · rw [decide_eq_true c0] at hd ⊢
            rw [Bool.true_or, Bool.true_and] at hd
            refine iteT ⟨_, rfl, true, rfl, iteT ⟨Nat.le_of_ble_eq_true rfl, fun t4 ht4 => ⟨_, rfl, in_deal (s := (false, 1)) ⟨t4, rfl, SqT.of upd_same⟩ (hdd5.mono (same_new ht4)) ⟨_, rfl, ?_⟩⟩⟩⟩
            have S4 := S5.trans (same_new (o := .tup [.str "read", .int 1]) ht4)
            by_cases c : ((false, 1) : Stp) ∈ d
            · rw [decide_eq_true c] at hd ⊢
              have := kk _ (Se.trans S4)
              rw [hd] at this
              exact iteT this
            · rw [decide_eq_false c] at hd ⊢
              exact iteF ⟨true, _, _, rfl, S4, hd⟩
          · rw [decide_eq_false c0] at hd ⊢
            rw [Bool.false_or] at hd
            refine iteF ⟨Nat.le_of_ble_eq_true rfl, fun t6 ht6 => ⟨_, rfl, in_deal (s := (true, 2)) ⟨t6, rfl, SqT.of upd_same⟩ (hdd5.mono (same_new ht6)) ?_⟩⟩
            have S6 := S5.trans (same_new (o := .tup [.str "write", .int 2]) ht6)
            have hdd6 := hdd5.mono (same_new (o := .tup [.str "write", .int 2]) ht6)
            generalize (upd H5 t6 (.tup [.str "write", .int 2])) = H6 at S6 hdd6 ⊢
            refine ⟨_, rfl, decide (((true, 2) : Stp) ∈ d), rfl, ?_⟩
            by_cases c2 : ((true, 2) : Stp) ∈ d
            · rw [decide_eq_true c2] at hd ⊢
              rw [Bool.true_and] at hd
              refine iteT ⟨Nat.le_of_ble_eq_true rfl, fun t4 ht4 => ⟨_, rfl, in_deal (s := (false, 1)) ⟨t4, rfl, SqT.of upd_same⟩ (hdd6.mono (same_new ht4)) ⟨_, rfl, ?_⟩⟩⟩
              have S4 := S6.trans (same_new (o := .tup [.str "read", .int 1]) ht4)
              by_cases c : ((false, 1) : Stp) ∈ d
              · rw [decide_eq_true c] at hd ⊢
                have := kk _ (Se.trans S4)
                rw [hd] at this
                exact iteT this
              · rw [decide_eq_false c] at hd ⊢
                exact iteF ⟨true, _, _, rfl, S4, hd⟩
            · rw [decide_eq_false c2] at hd ⊢
              rw [Bool.false_and] at hd
              exact iteF (iteF ⟨false, _, _, rfl, S6, hd⟩)
      · rw [decide_eq_false hl]
        rw [if_neg hl] at hd
        exact iteF ⟨a, _, _, rfl, S3, hd⟩
    · rintro σ H2 ⟨a, o4, o5, rfl, S2, hd⟩
      have : (rd.zip ls).drop uv.length = [] := List.drop_eq_nil_of_le (by rw [List.length_zip]; omega)
      rw [this] at hd
      have := kk H2 (Se.trans S2)
      rw [hd] at this
      exact this
end
end K60

set_option Elab.async false
set_option linter.all false
set_option maxRecDepth 100000
set_option maxHeartbeats 8000000
/-! K61L: the law's cut is of the plain law's kind. -/
namespace K60
open PySem L2 PySem.Spec
def num (N t j : Nat) : Int := ((j : Int) - (t : Int)) % (N : Int)
theorem num_eq {N t j : Nat} (ht : t < N) (hj : j < N) : num N t j = if t ≤ j then (j : Int) - t else (j : Int) - t + N := by
  unfold num
  by_cases c : t ≤ j
  · rw [if_pos c]; exact Int.emod_eq_of_lt (by omega) (by omega)
  · rw [if_neg c, ← Int.add_emod_right]; exact Int.emod_eq_of_lt (by omega) (by omega)
def rot {α : Type} (l : List α) (t : Nat) : List α := l.drop t ++ l.take t
theorem rot_len {α : Type} (l : List α) (t : Nat) (h : t < l.length) : (rot l t).length = l.length := by
  unfold rot; rw [List.length_append, List.length_drop, List.length_take]; omega
theorem rot_at {α : Type} {l : List α} {t j : Nat} (ht : t < l.length) (hj : j < l.length) : (rot l t)[(num l.length t j).toNat]? = l[j]? := by
  rw [num_eq ht hj]
  unfold rot
  by_cases c : t ≤ j
  · rw [if_pos c, List.getElem?_append_left (by rw [List.length_drop]; omega), List.getElem?_drop]
    congr 1; omega
  · rw [if_neg c, List.getElem?_append_right (by rw [List.length_drop]; omega), List.length_drop, List.getElem?_take_of_lt (by omega)]
    congr 1; omega
theorem rot_mem {α : Type} {l : List α} {t : Nat} {x : α} : x ∈ rot l t ↔ x ∈ l := by
  unfold rot
  rw [List.mem_append]
  constructor
  · rintro (h | h)
    · exact List.mem_of_mem_drop h
    · exact List.mem_of_mem_take h
  · intro h
    rw [← List.take_append_drop t l, List.mem_append] at h
    exact h.symm
/-- what the law builds -/
structure Made (M : Deal) (rD : List Deal) (l0 : Lv) (ls : List Lv) (t cut : Nat) : Prop where
  perm : M.Perm [(false, 0), (false, 2), (true, 1)]
  cut_ : M[cut]? = some (false, 0)
  n1 : 1 ≤ rD.length
  n6 : rD.length ≤ 6
  row : ∀ (i : Nat) d, rD[i]? = some d → RowOk i rD.length d
  lvs : ls.length = rD.length
  t_ : t ≤ rD.length
section
variable {M : Deal} {rD : List Deal} {l0 : Lv} {ls : List Lv} {t cut : Nat}
abbrev dsOf (M : Deal) (rD : List Deal) (t : Nat) : List Deal := rot (M :: rD) t
abbrev gsOf (l0 : Lv) (ls : List Lv) (t : Nat) : List Lv := rot (l0 :: ls) t
abbrev cOf (n t : Nat) : Int := num (n + 1) t 0
abbrev rsOf (n t : Nat) : List Int := (List.range n).map fun j => num (n + 1) t (j + 1)
def cfgOf (M : Deal) (rD : List Deal) (l0 : Lv) (ls : List Lv) (t cut : Nat) : Cfg := ⟨rD.length + 1, lvOf (gsOf l0 ls t), dlOf (dsOf M rD t), cOf rD.length t, rsOf rD.length t, cut⟩
theorem Made.dl (O : Made M rD l0 ls t cut) {j : Nat} (hj : j < rD.length + 1) : dlOf (dsOf M rD t) (num (rD.length + 1) t j) = ((M :: rD)[j]?).getD [] := by
  unfold dlOf
  have h := rot_at (l := M :: rD) (t := t) (j := j) (by rw [List.length_cons]; have := O.t_; omega) (by rw [List.length_cons]; exact hj)
  rw [List.length_cons] at h
  rw [h]
theorem Made.lv (O : Made M rD l0 ls t cut) {j : Nat} (hj : j < rD.length + 1) : lvOf (gsOf l0 ls t) (num (rD.length + 1) t j) = ((l0 :: ls)[j]?).getD .lax := by
  unfold lvOf
  have h := rot_at (l := l0 :: ls) (t := t) (j := j) (by rw [List.length_cons, O.lvs]; have := O.t_; omega) (by rw [List.length_cons, O.lvs]; exact hj)
  rw [List.length_cons, O.lvs] at h
  rw [h]
theorem Made.c_ (O : Made M rD l0 ls t cut) : dlOf (dsOf M rD t) (cOf rD.length t) = M := by rw [O.dl (by omega)]; rfl
theorem Made.r_ (O : Made M rD l0 ls t cut) {i : Nat} {r : Int} (h : (rsOf rD.length t)[i]? = some r) : ∃ d, rD[i]? = some d ∧ dlOf (dsOf M rD t) r = d ∧ i < rD.length ∧ r = num (rD.length + 1) t (i + 1) := by
  unfold rsOf at h
  rw [List.getElem?_map] at h
  cases e : (List.range rD.length)[i]? with
  | none => rw [e] at h; cases h
  | some j =>
    rw [e] at h
    obtain ⟨h1, h2⟩ := List.getElem?_eq_some_iff.mp e
    rw [List.length_range] at h1
    rw [List.getElem_range] at h2
    subst h2
    have hr : r = num (rD.length + 1) t (i + 1) := (Option.some.inj h).symm
    refine ⟨rD[i], List.getElem?_eq_getElem h1, ?_, h1, hr⟩
    rw [hr, O.dl (by omega), List.getElem?_cons_succ, List.getElem?_eq_getElem h1]; rfl
theorem Made.get (O : Made M rD l0 ls t cut) {i : Nat} (h : i < rD.length) : (rsOf rD.length t)[i]? = some (num (rD.length + 1) t (i + 1)) := by
  unfold rsOf
  rw [List.getElem?_map, List.getElem?_range h]; rfl
theorem Made.all (O : Made M rD l0 ls t cut) : cOf rD.length t :: rsOf rD.length t = (List.range (rD.length + 1)).map (num (rD.length + 1) t) := by
  rw [List.range_succ_eq_map, List.map_cons, List.map_map]; rfl
theorem Made.nd (O : Made M rD l0 ls t cut) : (cOf rD.length t :: rsOf rD.length t).Nodup := by
  rw [O.all]
  have ht := O.t_
  rw [List.Nodup, List.pairwise_map]
  refine List.Pairwise.imp_of_mem ?_ (List.pairwise_lt_range (n := rD.length + 1))
  intro a b ha hb hab
  have ha := List.mem_range.mp ha
  have hb := List.mem_range.mp hb
  rw [num_eq (by omega) ha, num_eq (by omega) hb]
  by_cases c1 : t ≤ a
  · rw [if_pos c1, if_pos (by omega)]; omega
  · rw [if_neg c1]
    by_cases c2 : t ≤ b
    · rw [if_pos c2]; omega
    · rw [if_neg c2]; omega
theorem Made.rng (O : Made M rD l0 ls t cut) : ∀ m ∈ cOf rD.length t :: rsOf rD.length t, 0 ≤ m ∧ m < ((rD.length + 1 : Nat) : Int) := by
  intro m hm
  rw [O.all] at hm
  obtain ⟨j, hj, rfl⟩ := List.mem_map.mp hm
  unfold num
  exact ⟨Int.emod_nonneg _ (by omega), Int.emod_lt_of_pos _ (by omega)⟩
theorem Made.sur (O : Made M rD l0 ls t cut) : ∀ m : Int, 0 ≤ m → m < ((rD.length + 1 : Nat) : Int) → m ∈ cOf rD.length t :: rsOf rD.length t := by
  intro m h0 h1
  have ht := O.t_
  rw [O.all]
  obtain ⟨a, rfl⟩ := Int.eq_ofNat_of_zero_le h0
  by_cases c : a + t < rD.length + 1
  · refine List.mem_map.mpr ⟨a + t, List.mem_range.mpr c, ?_⟩
    rw [num_eq (by omega) c, if_pos (by omega)]; omega
  · refine List.mem_map.mpr ⟨a + t - (rD.length + 1), List.mem_range.mpr (by omega), ?_⟩
    rw [num_eq (by omega) (by omega), if_neg (by omega)]; omega
theorem Made.ok (O : Made M rD l0 ls t cut) : (cfgOf M rD l0 ls t cut).Ok where
  nd := O.nd
  rng := O.rng
  all := O.sur
  len := by show (rsOf rD.length t).length + 1 = rD.length + 1; simp [rsOf]
  n7 := by show rD.length + 1 ≤ 7; have := O.n6; omega
  n2 := by show 1 ≤ (rsOf rD.length t).length; simp [rsOf]; have := O.n1; omega
  mlen := by show (dlOf (dsOf M rD t) (cOf rD.length t)).length = 3; rw [O.c_, O.perm.length_eq]; rfl
  mnd := by show (dlOf (dsOf M rD t) (cOf rD.length t)).Nodup; rw [O.c_, O.perm.nodup_iff]; decide
  mmem := fun s => by
    show s ∈ dlOf (dsOf M rD t) (cOf rD.length t) ↔ _
    rw [O.c_, O.perm.mem_iff]; simp
  hat := by show (dlOf (dsOf M rD t) (cOf rD.length t))[cut]? = _; rw [O.c_]; exact O.cut_
  row := fun i r h => by
    obtain ⟨d, h1, h2, h3, _⟩ := O.r_ h
    show RowOk i (rsOf rD.length t).length (dlOf (dsOf M rD t) r)
    rw [h2]
    have : (rsOf rD.length t).length = rD.length := by simp [rsOf]
    rw [this]
    exact O.row i d h1
end
end K60

set_option Elab.async false
set_option linter.all false
set_option maxRecDepth 100000
set_option maxHeartbeats 8000000
/-! K61M: what the plain law says of the law's weaving. -/
namespace K60
open PySem L2 PySem.Spec
section
variable {M : Deal} {rD : List Deal} {l0 : Lv} {ls : List Lv} {t cut : Nat}
abbrev wsOf (M : Deal) (rD : List Deal) (t cut : Nat) : List Int := weaveOf (dsOf M rD t) (cOf rD.length t) cut (rsOf rD.length t)
theorem Made.dslen (O : Made M rD l0 ls t cut) : (dsOf M rD t).length = rD.length + 1 := by
  rw [rot_len _ _ (by rw [List.length_cons]; have := O.t_; omega), List.length_cons]
theorem Made.gslen (O : Made M rD l0 ls t cut) : (gsOf l0 ls t).length = (dsOf M rD t).length := by
  rw [O.dslen, rot_len _ _ (by rw [List.length_cons, O.lvs]; have := O.t_; omega), List.length_cons, O.lvs]
theorem Made.mlen (O : Made M rD l0 ls t cut) : M.length = 3 := by rw [O.perm.length_eq]; rfl
theorem Made.cut3 (O : Made M rD l0 ls t cut) : cut < 3 := by
  have := (List.getElem?_eq_some_iff.mp O.cut_).1
  rw [O.mlen] at this; exact this
theorem Made.weave (O : Made M rD l0 ls t cut) : (cfgOf M rD l0 ls t cut).weave = wsOf M rD t cut := by
  show _ = weaveOf _ _ _ _
  unfold Cfg.weave weaveOf
  rw [O.c_, O.mlen]; rfl
theorem Made.ran (O : Made M rD l0 ls t cut) : AllSteps (cfgOf M rD l0 ls t cut) (init (lvOf (gsOf l0 ls t))) (wsOf M rD t cut) ∧
    SI (cfgOf M rD l0 ls t cut) (runR (dlOf (dsOf M rD t)) (init (lvOf (gsOf l0 ls t))) (wsOf M rD t cut)) (rsOf rD.length t ++ [cOf rD.length t]) := by
  have := theRun O.ok
  rw [O.weave] at this
  exact this
theorem steps_at {S : Cfg} : ∀ {ws : List Int} {R : RunSt}, AllSteps S R ws → ∀ (i : Nat) n, ws[i]? = some n → (0 ≤ n ∧ n < S.N ∧ (runR S.D R (ws.take i)).done n ≤ (S.D n).length ∧ StepOk S.N (runR S.D R (ws.take i)).E n (nextStep S.D (runR S.D R (ws.take i)) n)) ∧
    (nextStep S.D (runR S.D R (ws.take i)) n = none → ((runR S.D R (ws.take i)).E.BarEnd n ↔ n = S.c ∧ S.Due))
  | [], _, _, i, n, h => by simp at h
  | x :: ws, R, A, 0, n, h => by simp at h; subst h; exact A.1
  | x :: ws, R, A, i + 1, n, h => by
    have := steps_at A.2 i n (by simpa using h)
    exact this
theorem Made.few (O : Made M rD l0 ls t cut) : (wsOf M rD t cut).length ≤ 100 := by
  show (weaveOf _ _ _ _).length ≤ 100
  unfold weaveOf
  rw [List.length_append, List.length_append, List.length_replicate, List.length_replicate, O.c_, O.mlen]
  have h := flat_le (fun r => List.replicate ((dlOf (dsOf M rD t) r).length + 1) r) 9 (rsOf rD.length t) fun r hr => by
    obtain ⟨i, hi, hr⟩ := List.mem_iff_getElem.mp hr
    obtain ⟨d, h1, h2, _⟩ := O.r_ (by rw [List.getElem?_eq_getElem hi, hr])
    rw [List.length_replicate, h2]
    have := (O.row i d h1).len
    omega
  have h2 : (rsOf rD.length t).length = rD.length := by simp [rsOf]
  rw [h2] at h
  have := O.n6
  have := O.cut3
  omega
theorem Made.goes (O : Made M rD l0 ls t cut) : GoesW (dsOf M rD t) (gsOf l0 ls t) (wsOf M rD t cut) where
  ok := fun i n h => by
    have := (steps_at O.ran.1 i n h).1
    rw [O.dslen]
    exact this
  n60 := by rw [O.dslen]; have := O.n6; omega
  few := O.few
theorem Made.bar (O : Made M rD l0 ls t cut) (i : Nat) (h : BarAt (dsOf M rD t) (gsOf l0 ls t) (wsOf M rD t cut) i) : (cfgOf M rD l0 ls t cut).Due := by
  obtain ⟨n, hn, hs, hb⟩ := h
  exact (((steps_at O.ran.1 i n hn).2 hs).mp hb).2
theorem Made.due_bar (O : Made M rD l0 ls t cut) (h : (cfgOf M rD l0 ls t cut).Due) : ∃ i, BarAt (dsOf M rD t) (gsOf l0 ls t) (wsOf M rD t cut) i := by
  have e : wsOf M rD t cut = (List.replicate (cut + 1) (cOf rD.length t) ++ ((rsOf rD.length t).flatMap fun r => List.replicate ((dlOf (dsOf M rD t) r).length + 1) r) ++ List.replicate (2 - cut) (cOf rD.length t)) ++ [cOf rD.length t] := by
    show weaveOf _ _ _ _ = _
    unfold weaveOf
    rw [O.c_, O.mlen]
    have : 3 - cut = (2 - cut) + 1 := by have := O.cut3; omega
    have e2 : List.replicate (2 - cut + 1) (cOf rD.length t) = List.replicate (2 - cut) (cOf rD.length t) ++ [cOf rD.length t] := List.replicate_succ'
    rw [this, e2, ← List.append_assoc]
  generalize (List.replicate (cut + 1) (cOf rD.length t) ++ ((rsOf rD.length t).flatMap fun r => List.replicate ((dlOf (dsOf M rD t) r).length + 1) r) ++ List.replicate (2 - cut) (cOf rD.length t)) = u at e
  have hn : (wsOf M rD t cut)[u.length]? = some (cOf rD.length t) := by rw [e, List.getElem?_append_right (Nat.le_refl _)]; simp
  have htk : (wsOf M rD t cut).take u.length = u := by rw [e]; simp
  have hdone : (ranAt (dsOf M rD t) (gsOf l0 ls t) (wsOf M rD t cut) u.length).done (cOf rD.length t) = 3 := by
    have h2 := O.ran.2.ended (cOf rD.length t) (by simp)
    have h3 : runR (dlOf (dsOf M rD t)) (init (lvOf (gsOf l0 ls t))) (wsOf M rD t cut) = goR (dlOf (dsOf M rD t)) (ranAt (dsOf M rD t) (gsOf l0 ls t) (wsOf M rD t cut) u.length) (cOf rD.length t) := by
      unfold ranAt
      rw [htk, ← runR_snoc, ← e]
    rw [h3] at h2
    have h4 : (goR (dlOf (dsOf M rD t)) (ranAt (dsOf M rD t) (gsOf l0 ls t) (wsOf M rD t cut) u.length) (cOf rD.length t)).done (cOf rD.length t) = (ranAt (dsOf M rD t) (gsOf l0 ls t) (wsOf M rD t cut) u.length).done (cOf rD.length t) + 1 := setf_same _ _ _
    rw [h4] at h2
    have h5 : ((cfgOf M rD l0 ls t cut).D (cOf rD.length t)).length = 3 := by show (dlOf (dsOf M rD t) (cOf rD.length t)).length = 3; rw [O.c_, O.mlen]
    rw [h5] at h2
    omega
  have hst : nextStep (dlOf (dsOf M rD t)) (ranAt (dsOf M rD t) (gsOf l0 ls t) (wsOf M rD t cut) u.length) (cOf rD.length t) = none := by
    unfold nextStep
    rw [hdone, O.c_, List.getElem?_eq_none (by rw [O.mlen]; omega)]
  refine ⟨u.length, _, hn, hst, ?_⟩
  exact ((steps_at O.ran.1 u.length _ hn).2 hst).mpr ⟨rfl, h⟩
theorem count_flat (f : Int → Nat) (j : Int) : ∀ rs : List Int, rs.Nodup → (rs.flatMap fun r => List.replicate (f r) r).count j = if j ∈ rs then f j else 0
  | [], _ => by simp
  | r :: rs, nd => by
    have ih := count_flat f j rs (List.nodup_cons.mp nd).2
    rw [List.flatMap_cons, List.count_append, ih, List.count_replicate]
    by_cases e : r = j
    · subst e
      have := (List.nodup_cons.mp nd).1
      simp [this]
    · have e' : ¬ j = r := fun z => e z.symm
      simp [e, e']
theorem Made.isWeave (O : Made M rD l0 ls t cut) : IsWeave (dsOf M rD t) (wsOf M rD t cut) where
  rng := fun m hm => by
    obtain ⟨i, hi, e⟩ := List.mem_iff_getElem.mp hm
    have := (steps_at O.ran.1 i m (by rw [List.getElem?_eq_getElem hi, e])).1
    rw [O.dslen]
    exact ⟨this.1, this.2.1⟩
  cnt := fun j hj => by
    rw [O.dslen] at hj
    have nd := List.nodup_cons.mp O.nd
    show (weaveOf _ _ _ _).count (j : Int) = _
    unfold weaveOf
    rw [List.count_append, List.count_append, List.count_replicate, List.count_replicate, count_flat (fun r => (dlOf (dsOf M rD t) r).length + 1) (j : Int) _ nd.2, O.c_, O.mlen]
    have hc := O.cut3
    rcases List.mem_cons.mp (O.sur (j : Int) (by omega) (by omega)) with z | z
    · have hn : ¬ (j : Int) ∈ rsOf rD.length t := by rw [z]; exact nd.1
      rw [if_neg hn, z, O.c_, O.mlen]
      simp
      omega
    · have hn : ¬ cOf rD.length t = (j : Int) := fun e => nd.1 (e ▸ z)
      rw [if_pos z]
      simp [hn]
  few := Nat.le_trans O.few (by omega)
theorem Made.dsOk (O : Made M rD l0 ls t cut) : DsOk (dsOf M rD t) := by
  refine ⟨by rw [O.dslen]; omega, by rw [O.dslen]; have := O.n6; omega, fun d hd => ?_⟩
  rcases List.mem_cons.mp (rot_mem.mp hd) with e | e
  · rw [e]
    refine ⟨by rw [O.mlen]; omega, by rw [O.mlen]; omega, fun s hs => ?_, (O.perm.map _).nodup_iff.mpr (by decide)⟩
    have := O.perm.mem_iff.mp hs
    simp at this
    unfold BoxOk
    rcases this with e | e | e <;> rw [e] <;> decide
  · obtain ⟨i, hi, e⟩ := List.mem_iff_getElem.mp e
    have R := O.row i d (by rw [List.getElem?_eq_getElem hi, e])
    refine ⟨R.len1, R.len, fun s hs => ?_, R.box⟩
    obtain ⟨b, x⟩ := s
    have := O.n6
    unfold BoxOk
    show 0 ≤ x ∧ x ≤ 100000000
    cases b with
    | true => have := R.wr x hs; omega
    | false => have := R.rd x hs; omega
end
end K60

set_option Elab.async false
set_option linter.all false
set_option maxRecDepth 100000
set_option maxHeartbeats 8000000
/-! K61N: the cut is fine; what is due; the ties behind the weaving. -/
namespace K60
open PySem L2 PySem.Spec
theorem dueW_iff : ∀ (l : List (Deal × Lv)) (a : Bool), dueW l a = true ↔ ∃ (j : Nat) (d : Deal), l[j]? = some (d, .whole) ∧ (false, 1) ∈ d ∧ (a = true ∨ ∃ (i : Nat) (d' : Deal), i ≤ j ∧ l[i]? = some (d', .whole) ∧ ((true, 0) ∈ d' ∨ (true, 2) ∈ d'))
  | [], a => by simp [dueW]
  | (d, l) :: r, a => by
    rw [dueW_cons]
    by_cases hl : l = .whole
    · rw [if_pos hl]
      subst hl
      by_cases hd : ((a || decide (((true, 0) : Stp) ∈ d) || decide (((true, 2) : Stp) ∈ d)) && decide (((false, 1) : Stp) ∈ d)) = true
      · rw [if_pos hd]
        refine ⟨fun _ => ⟨0, d, rfl, ?_⟩, fun _ => rfl⟩
        simp only [Bool.and_eq_true, Bool.or_eq_true, decide_eq_true_eq] at hd
        refine ⟨hd.2, ?_⟩
        rcases hd.1 with (h | h) | h
        · exact .inl h
        · exact .inr ⟨0, d, Nat.le_refl _, rfl, .inl h⟩
        · exact .inr ⟨0, d, Nat.le_refl _, rfl, .inr h⟩
      · rw [if_neg hd, dueW_iff r]
        simp only [Bool.and_eq_true, Bool.or_eq_true, decide_eq_true_eq] at hd ⊢
        constructor
        · rintro ⟨j, e, h1, h2, h3⟩
          refine ⟨j + 1, e, by simpa using h1, h2, ?_⟩
          rcases h3 with h3 | ⟨i, e', h4, h5, h6⟩
          · rcases h3 with (h3 | h3) | h3
            · exact .inl h3
            · exact .inr ⟨0, d, Nat.zero_le _, rfl, .inl h3⟩
            · exact .inr ⟨0, d, Nat.zero_le _, rfl, .inr h3⟩
          · exact .inr ⟨i + 1, e', by omega, by simpa using h5, h6⟩
        · rintro ⟨j, e, h1, h2, h3⟩
          cases j with
          | zero =>
            simp at h1; subst h1
            exfalso; apply hd
            refine ⟨?_, h2⟩
            rcases h3 with h3 | ⟨i, e', h4, h5, h6⟩
            · exact .inl (.inl h3)
            · have : i = 0 := by omega
              subst this
              simp at h5; subst h5
              rcases h6 with h6 | h6
              · exact .inl (.inr h6)
              · exact .inr h6
          | succ j =>
            refine ⟨j, e, by simpa using h1, h2, ?_⟩
            rcases h3 with h3 | ⟨i, e', h4, h5, h6⟩
            · exact .inl (.inl (.inl h3))
            · cases i with
              | zero =>
                simp at h5; subst h5
                rcases h6 with h6 | h6
                · exact .inl (.inl (.inr h6))
                · exact .inl (.inr h6)
              | succ i => exact .inr ⟨i, e', by omega, by simpa using h5, h6⟩
    · rw [if_neg hl, dueW_iff r]
      constructor
      · rintro ⟨j, e, h1, h2, h3⟩
        refine ⟨j + 1, e, by simpa using h1, h2, h3.imp_right ?_⟩
        rintro ⟨i, e', h4, h5, h6⟩
        exact ⟨i + 1, e', by omega, by simpa using h5, h6⟩
      · rintro ⟨j, e, h1, h2, h3⟩
        cases j with
        | zero => simp at h1; exact absurd h1.2 hl
        | succ j =>
          refine ⟨j, e, by simpa using h1, h2, h3.imp_right ?_⟩
          rintro ⟨i, e', h4, h5, h6⟩
          cases i with
          | zero => simp at h5; exact absurd h5.2 hl
          | succ i => exact ⟨i, e', by omega, by simpa using h5, h6⟩
theorem dueL_W {M : Deal} (p : M.Perm [(false, 0), (false, 2), (true, 1)]) : ∀ (r : List (Deal × Lv)) (a : Bool), dueL M r a = dueW r a
  | [], _ => rfl
  | (d, l) :: r, a => by
    have hw : hitW M d = (decide ((true, 0) ∈ d) || decide ((true, 2) ∈ d)) := by
      unfold hitW
      have hm : ∀ x, x ∈ boxesW false M ↔ x ∈ [(0 : Int), 2] := fun x => by rw [mem_boxesW, p.mem_iff]; simp
      rw [any_same hm]; simp
    have hr : hitR M d = decide ((false, 1) ∈ d) := by
      unfold hitR
      have hm : ∀ x, x ∈ boxesW true M ↔ x ∈ [(1 : Int)] := fun x => by rw [mem_boxesW, p.mem_iff]; simp
      rw [any_same hm]; simp
    rw [dueL_cons, dueW_cons, hw, hr, dueL_W p r]
    by_cases hl : l = .whole
    · rw [if_pos hl, hl]
      simp [Bool.or_assoc]
    · rw [if_neg hl, decide_eq_false hl]
      simp
section
variable {M : Deal} {rD : List Deal} {l0 : Lv} {ls : List Lv} {t cut : Nat}
theorem Made.rslen (O : Made M rD l0 ls t cut) : (rsOf rD.length t).length = rD.length := by simp [rsOf]
theorem Made.fine (O : Made M rD l0 ls t cut) : CutFine (dsOf M rD t) (gsOf l0 ls t) (cOf rD.length t) cut (rsOf rD.length t) 0 where
  pre := ⟨O.nd, fun m hm => by rw [O.dslen]; exact O.rng m hm, by rw [O.c_, O.mlen]; exact O.cut3, fun z => by have h := O.rslen; rw [z] at h; have := O.n1; simp at h; omega⟩
  ok := O.dsOk
  len := O.gslen
  few := by rw [O.rslen]; have := O.n6; omega
  read := by rw [O.c_]; exact O.cut_
  first := fun r h => by
    obtain ⟨d, h1, h2, _⟩ := O.r_ h
    rw [h2]; exact (O.row 0 d h1).first rfl
  apart := fun r hr x hx hx2 => by
    obtain ⟨i, hi, e⟩ := List.mem_iff_getElem.mp hr
    obtain ⟨d, h1, h2, _⟩ := O.r_ (by rw [List.getElem?_eq_getElem hi, e])
    rw [O.c_, O.perm.mem_iff] at hx
    rw [h2] at hx2
    have := (O.row i d h1).wr x hx2
    simp at hx
    subst hx
    omega
  chain := fun i q r hq hr => by
    obtain ⟨d, h1, h2, _⟩ := O.r_ hq
    obtain ⟨d', h1', h2', _⟩ := O.r_ hr
    have e := (O.row (i + 1) d' h1').link (by omega)
    have e2 : (9 + ((i + 1 : Nat) : Int)) = 10 + (i : Int) := by omega
    rw [e2] at e
    rw [h2, h2']
    exact ⟨(true, 10 + (i : Int)), (O.row i d h1).own, by simp [clash, e]⟩
  close := fun r h => by
    rw [List.getLast?_eq_getElem?, O.rslen] at h
    obtain ⟨d, h1, h2, _⟩ := O.r_ h
    rw [O.c_, h2]
    refine ⟨1, O.perm.mem_iff.mpr (by simp), (O.row _ d h1).last ?_⟩
    have := O.n1; omega
theorem Made.zip (O : Made M rD l0 ls t cut) : ((rsOf rD.length t).map fun r => (dlOf (dsOf M rD t) r, lvOf (gsOf l0 ls t) r)) = rD.zip ls := by
  apply List.ext_getElem?
  intro i
  by_cases hi : i < rD.length
  · rw [List.getElem?_map, O.get hi]
    have h1 := O.dl (j := i + 1) (by omega)
    have h2 := O.lv (j := i + 1) (by omega)
    have hi2 : i < ls.length := by rw [O.lvs]; exact hi
    rw [List.getElem?_cons_succ, List.getElem?_eq_getElem hi] at h1
    rw [List.getElem?_cons_succ, List.getElem?_eq_getElem hi2] at h2
    show some (dlOf (dsOf M rD t) (num (rD.length + 1) t (i + 1)), lvOf (gsOf l0 ls t) (num (rD.length + 1) t (i + 1))) = _
    rw [h1, h2]
    symm
    rw [List.getElem?_zip_eq_some]
    exact ⟨List.getElem?_eq_getElem hi, List.getElem?_eq_getElem hi2⟩
  · rw [List.getElem?_eq_none (by rw [List.length_map, O.rslen]; omega), List.getElem?_eq_none (by rw [List.length_zip]; omega)]
theorem Made.lvc (O : Made M rD l0 ls t cut) : lvOf (gsOf l0 ls t) (cOf rD.length t) = l0 := by rw [O.lv (by omega)]; rfl
theorem Made.fault (O : Made M rD l0 ls t cut) : faultOf (dsOf M rD t) (gsOf l0 ls t) (cOf rD.length t) (rsOf rD.length t) = dueV l0 (rD.zip ls) := by
  unfold faultOf dueV
  rw [O.zip, O.lvc, O.c_, dueL_W O.perm]
theorem Made.due (O : Made M rD l0 ls t cut) : (cfgOf M rD l0 ls t cut).Due ↔ (decide (l0 = .whole) && dueW (rD.zip ls) false) = true := by
  rw [Bool.and_eq_true, decide_eq_true_eq, dueW_iff]
  have get : ∀ (i : Nat) (z : Int), (rsOf rD.length t)[i]? = some z → (rD.zip ls)[i]? = some (dlOf (dsOf M rD t) z, lvOf (gsOf l0 ls t) z) := fun i z h => by
    rw [← O.zip, List.getElem?_map, h]; rfl
  have got : ∀ (i : Nat) d l, (rD.zip ls)[i]? = some (d, l) → ∃ z, (rsOf rD.length t)[i]? = some z ∧ dlOf (dsOf M rD t) z = d ∧ lvOf (gsOf l0 ls t) z = l := fun i d l h => by
    rw [← O.zip, List.getElem?_map] at h
    cases e : (rsOf rD.length t)[i]? with
    | none => rw [e] at h; cases h
    | some z =>
      rw [e] at h
      have := Option.some.inj h
      exact ⟨z, rfl, congrArg Prod.fst this, congrArg Prod.snd this⟩
  constructor
  · rintro ⟨h0, i, j, z, x, hij, hz, hx, lz, lx, hw, hr⟩
    have h0 : lvOf (gsOf l0 ls t) (cOf rD.length t) = .whole := h0
    rw [O.lvc] at h0
    have lz : lvOf (gsOf l0 ls t) z = .whole := lz
    have lx : lvOf (gsOf l0 ls t) x = .whole := lx
    have g1 := get i z hz
    have g2 := get j x hx
    rw [lz] at g1
    rw [lx] at g2
    exact ⟨h0, j, _, g2, hr, .inr ⟨i, _, hij, g1, hw⟩⟩
  · rintro ⟨h0, j, d, h1, h2, h3⟩
    rcases h3 with h3 | ⟨i, d', h4, h5, h6⟩
    · cases h3
    · obtain ⟨x, hx, dx, lx⟩ := got j d _ h1
      obtain ⟨z, hz, dz, lz⟩ := got i d' _ h5
      exact ⟨by show lvOf (gsOf l0 ls t) (cOf rD.length t) = .whole; rw [O.lvc]; exact h0, i, j, z, x, h4, hz, hx, lz, lx, by show (true, 0) ∈ dlOf (dsOf M rD t) z ∨ (true, 2) ∈ dlOf (dsOf M rD t) z; rw [dz]; exact h6, by show (false, 1) ∈ dlOf (dsOf M rD t) x; rw [dx]; exact h2⟩
end
end K60

set_option Elab.async false
set_option linter.all false
set_option maxRecDepth 100000
set_option maxHeartbeats 8000000
/-! K61O: the ties behind the law's weaving. -/
namespace K60
open PySem L2 PySem.Spec
structure LkI (D : Int → Deal) (ws : List Int) (R : RunSt) : Prop where
  lk : ∀ t ∈ R.E.looks, t.1 ∈ ws
  put : ∀ m b, b ∈ R.E.put m → (true, b) ∈ D m
  ch : ∀ b, R.E.chain b ≠ none → ∃ m ∈ ws, (true, b) ∈ D m
theorem LkI.go {D : Int → Deal} {ws : List Int} {R : RunSt} (I : LkI D ws R) {n : Int} (hn : n ∈ ws) : LkI D ws (goR D R n) ∧ (goR D R n).E.looks.length ≤ R.E.looks.length + 1 := by
  unfold goR
  cases hs : nextStep D R n with
  | none =>
    refine ⟨⟨I.lk, I.put, fun b hb => ?_⟩, Nat.le_succ _⟩
    have hb : (if b ∈ R.E.put n then some (R.E.rows b ++ [n]) else R.E.chain b) ≠ none := hb
    by_cases c : b ∈ R.E.put n
    · exact ⟨n, hn, I.put n b c⟩
    · rw [if_neg c] at hb; exact I.ch b hb
  | some s =>
    obtain ⟨wr, b⟩ := s
    have hm : (wr, b) ∈ D n := List.mem_of_getElem? hs
    cases wr with
    | true =>
      refine ⟨⟨I.lk, fun m x hx => ?_, I.ch⟩, Nat.le_succ _⟩
      have hx : x ∈ setf R.E.put n (R.E.put n ++ [b]) m := hx
      by_cases c : m = n
      · subst c
        rw [setf_same] at hx
        rcases List.mem_append.mp hx with z | z
        · exact I.put m x z
        · rw [List.mem_singleton] at z; rw [z]; exact hm
      · rw [setf_ne _ _ c] at hx; exact I.put m x hx
    | false =>
      refine ⟨⟨fun t ht => ?_, I.put, I.ch⟩, ?_⟩
      · have ht : t ∈ R.E.looks ++ [(n, b, (R.E.begun n).newest n b)] := ht
        rcases List.mem_append.mp ht with z | z
        · exact I.lk t z
        · rw [List.mem_singleton] at z; rw [z]; exact hn
      · show (R.E.looks ++ [(n, b, (R.E.begun n).newest n b)]).length ≤ _
        simp
theorem LkI.run {D : Int → Deal} {ws : List Int} : ∀ (us : List Int) (R : RunSt), LkI D ws R → (∀ u ∈ us, u ∈ ws) → LkI D ws (runR D R us) ∧ (runR D R us).E.looks.length ≤ R.E.looks.length + us.length
  | [], R, I, _ => ⟨I, Nat.le_refl _⟩
  | u :: us, R, I, h => by
    obtain ⟨g1, g2⟩ := I.go (h u List.mem_cons_self)
    obtain ⟨r1, r2⟩ := LkI.run us _ g1 fun x hx => h x (List.mem_cons_of_mem _ hx)
    refine ⟨r1, Nat.le_trans r2 ?_⟩
    rw [List.length_cons]; omega
section
variable {M : Deal} {rD : List Deal} {l0 : Lv} {ls : List Lv} {t cut : Nat}
abbrev eOf (M : Deal) (rD : List Deal) (l0 : Lv) (ls : List Lv) (t cut : Nat) : Eng := (ranAt (dsOf M rD t) (gsOf l0 ls t) (wsOf M rD t cut) (wsOf M rD t cut).length).E
theorem Made.eE (O : Made M rD l0 ls t cut) : ranAt (dsOf M rD t) (gsOf l0 ls t) (wsOf M rD t cut) (wsOf M rD t cut).length = runR (dlOf (dsOf M rD t)) (init (lvOf (gsOf l0 ls t))) (wsOf M rD t cut) := by
  unfold ranAt; rw [List.take_length]
theorem Made.lki (O : Made M rD l0 ls t cut) : LkI (dlOf (dsOf M rD t)) (wsOf M rD t cut) (ranAt (dsOf M rD t) (gsOf l0 ls t) (wsOf M rD t cut) (wsOf M rD t cut).length) ∧ (eOf M rD l0 ls t cut).looks.length ≤ 100 := by
  have := LkI.run (D := dlOf (dsOf M rD t)) (ws := wsOf M rD t cut) (wsOf M rD t cut) (init (lvOf (gsOf l0 ls t))) ⟨by simp [init], by simp [init], by simp [init]⟩ fun _ h => h
  rw [O.eE]
  refine ⟨this.1, ?_⟩
  show (ranAt (dsOf M rD t) (gsOf l0 ls t) (wsOf M rD t cut) (wsOf M rD t cut).length).E.looks.length ≤ 100
  rw [O.eE]
  have h2 := this.2
  have h3 := O.few
  have h4 : (init (lvOf (gsOf l0 ls t))).E.looks.length = 0 := rfl
  omega
theorem Made.si (O : Made M rD l0 ls t cut) : SI (cfgOf M rD l0 ls t cut) (ranAt (dsOf M rD t) (gsOf l0 ls t) (wsOf M rD t cut) (wsOf M rD t cut).length) (rsOf rD.length t ++ [cOf rD.length t]) := by
  rw [O.eE]; exact O.ran.2
theorem Made.wsr (O : Made M rD l0 ls t cut) {m : Int} (h : m ∈ wsOf M rD t cut) : 0 ≤ m ∧ m < ((rD.length + 1 : Nat) : Int) := by
  have := O.isWeave.rng m h
  rw [O.dslen] at this; exact this
/-- a box of theirs -/
theorem Made.boxes (O : Made M rD l0 ls t cut) {m : Int} (hm : 0 ≤ m ∧ m < ((rD.length + 1 : Nat) : Int)) {b : Int} (h : (true, b) ∈ dlOf (dsOf M rD t) m) : 0 ≤ b ∧ b < 60 := by
  rcases List.mem_cons.mp (O.sur m hm.1 hm.2) with z | z
  · rw [z, O.c_, O.perm.mem_iff] at h
    simp at h; omega
  · obtain ⟨i, hi, e⟩ := List.mem_iff_getElem.mp z
    obtain ⟨d, h1, h2, h3, _⟩ := O.r_ (by rw [List.getElem?_eq_getElem hi, e])
    rw [h2] at h
    have := (O.row i d h1).wr b h
    have := O.n6
    omega
theorem Made.esnd (O : Made M rD l0 ls t cut) : (rsOf rD.length t ++ [cOf rD.length t]).Nodup := by
  have := List.nodup_cons.mp O.nd
  rw [List.nodup_append]
  exact ⟨this.2, by simp, fun a ha b hb => by rw [List.mem_singleton] at hb; rw [hb]; intro z; exact this.1 (z ▸ ha)⟩
theorem Made.esmem (O : Made M rD l0 ls t cut) {m : Int} (hm : 0 ≤ m ∧ m < ((rD.length + 1 : Nat) : Int)) : m ∈ rsOf rD.length t ++ [cOf rD.length t] := by
  rcases List.mem_cons.mp (O.sur m hm.1 hm.2) with z | z
  · rw [z]; simp
  · exact List.mem_append_left _ z
theorem Made.rowsr (O : Made M rD l0 ls t cut) {b x : Int} : x ∈ (eOf M rD l0 ls t cut).rows b ↔ (0 ≤ x ∧ x < ((rD.length + 1 : Nat) : Int)) ∧ (true, b) ∈ dlOf (dsOf M rD t) x := by
  rw [O.si.chain, List.mem_filter, decide_eq_true_eq]
  constructor
  · rintro ⟨h1, h2⟩
    refine ⟨O.rng x ?_, h2⟩
    rcases List.mem_append.mp h1 with z | z
    · exact List.mem_cons_of_mem _ z
    · rw [List.mem_singleton] at z; rw [z]; exact List.mem_cons_self
  · rintro ⟨h1, h2⟩; exact ⟨O.esmem h1, h2⟩
theorem Made.chain_some (O : Made M rD l0 ls t cut) {b x : Int} (h : x ∈ (eOf M rD l0 ls t cut).rows b) : ∃ rows, (eOf M rD l0 ls t cut).chain b = some rows ∧ x ∈ rows ∧ (eOf M rD l0 ls t cut).rows b = rows := by
  unfold Eng.rows at h ⊢
  cases e : (eOf M rD l0 ls t cut).chain b with
  | none => rw [e] at h; cases h
  | some rows => rw [e] at h; exact ⟨rows, rfl, h, rfl⟩
theorem Made.tiesF (O : Made M rD l0 ls t cut) : TiesF (eOf M rD l0 ls t cut) where
  rows := fun b rows h => by
    have er : (eOf M rD l0 ls t cut).rows b = rows := by unfold Eng.rows; rw [h]; rfl
    have e2 := O.si.chain b
    have e3 : rows = (rsOf rD.length t ++ [cOf rD.length t]).filter fun r => decide ((true, b) ∈ dlOf (dsOf M rD t) r) := er.symm.trans e2
    have nd : rows.Nodup := by rw [e3]; exact O.esnd.filter _
    refine ⟨?_, nd, fun hm => ?_⟩
    · have := nodup_room (rD.length + 1) rows nd fun x hx => (O.rowsr.mp (by rw [er]; exact hx)).1
      have := O.n6; omega
    · have := (O.rowsr (b := b) (x := -1)).mp (by rw [er]; exact hm)
      omega
  few := O.lki.2
  seen := fun t ht => O.si.sv t.1 t.2.1 t.2.2 ((O.si.looks t.1 t.2.1 t.2.2).mp ht)
  box := fun b hb => by
    obtain ⟨m, hm, hb2⟩ := O.lki.1.ch b hb
    exact O.boxes (O.wsr hm) hb2
theorem over_mem {b : Int} {rows : List Int} {n : Nat} {x : Tie} (hn : n ≤ rows.length) (h : x ∈ overs b rows n) : x.1 ∈ rows ∧ x.2.1 ∈ rows := by
  unfold overs at h
  rw [List.mem_flatMap] at h
  obtain ⟨k, hk, hx⟩ := h
  have hk := List.mem_range.mp hk
  obtain ⟨o, ho, rfl⟩ := List.mem_map.mp hx
  refine ⟨?_, List.mem_of_mem_drop ho⟩
  show rows.getD k 0 ∈ rows
  rw [List.getD_eq_getElem?_getD, List.getElem?_eq_getElem (by omega)]
  exact List.getElem_mem _
theorem sg_mem {lk : List (Int × Int × Int)} {b : Int} {p : Int × Int} : p ∈ sgOf lk b ↔ (p.1, b, p.2) ∈ lk := by
  unfold sgOf
  rw [List.mem_map]
  constructor
  · rintro ⟨t, ht, rfl⟩
    obtain ⟨h1, h2⟩ := List.mem_filter.mp ht
    obtain ⟨a, b', c⟩ := t
    have := of_decide_eq_true h2
    simp only at this
    subst this
    exact h1
  · intro h
    exact ⟨(p.1, b, p.2), List.mem_filter.mpr ⟨h, by simp⟩, rfl⟩
theorem Made.tieR (O : Made M rD l0 ls t cut) (x : Tie) (h : IsTie (eOf M rD l0 ls t cut) x) : (0 ≤ x.1 ∧ x.1 < ((rD.length + 1 : Nat) : Int)) ∧ 0 ≤ x.2.1 ∧ x.2.1 < ((rD.length + 1 : Nat) : Int) := by
  obtain ⟨b, rows, hb, hx⟩ := h
  have er : (eOf M rD l0 ls t cut).rows b = rows := by unfold Eng.rows; rw [hb]; rfl
  have rr : ∀ y ∈ rows, 0 ≤ y ∧ y < ((rD.length + 1 : Nat) : Int) := fun y hy => (O.rowsr (b := b)).mp (by rw [er]; exact hy) |>.1
  unfold tiesB at hx
  rcases List.mem_append.mp hx with z | z
  · have := over_mem (Nat.le_refl _) z
    exact ⟨rr _ this.1, rr _ this.2⟩
  · rw [List.mem_flatMap] at z
    obtain ⟨p, hp, z⟩ := z
    rw [List.mem_flatMap] at z
    obtain ⟨y, hy, z⟩ := z
    have h1 := O.wsr (O.lki.1.lk _ (sg_mem.mp hp))
    have h2 := rr y hy
    unfold tieStep at z
    split at z
    · cases z
    · split at z
      · rw [List.mem_singleton] at z; rw [z]; exact ⟨h2, h1⟩
      · rw [List.mem_singleton] at z; rw [z]; exact ⟨h1, h2⟩
/-- who saw a version, and who wrote one: a tie of both -/
theorem Made.edge (O : Made M rD l0 ls t cut) {r v b x : Int} (hs : (eOf M rD l0 ls t cut).sight r b = some v) (hx : x ∈ (eOf M rD l0 ls t cut).rows b) (hne : x ≠ r) :
    ∃ y, IsTie (eOf M rD l0 ls t cut) y ∧ ((v = x ∧ y.1 = x ∧ y.2.1 = r) ∨ (v ≠ x ∧ (v = -1 → y.1 = r ∧ y.2.1 = x))) := by
  obtain ⟨rows, hc, hxr, er⟩ := O.chain_some hx
  have hlk := (O.si.looks r b v).mpr hs
  have hp : (r, v) ∈ sgOf (eOf M rD l0 ls t cut).looks b := sg_mem.mpr hlk
  have x0 := (O.rowsr.mp hx).1.1
  have mk : ∀ y ∈ tieStep b rows (r, v) x, IsTie (eOf M rD l0 ls t cut) y := fun y hy => ⟨b, rows, hc, List.mem_append_right _ (List.mem_flatMap.mpr ⟨(r, v), hp, List.mem_flatMap.mpr ⟨x, hxr, hy⟩⟩)⟩
  have hn1 : x ≠ -1 := by omega
  by_cases hv : v = x
  · refine ⟨(x, r, 1, b), mk _ ?_, .inl ⟨hv, rfl, rfl⟩⟩
    unfold tieStep
    rw [if_neg hne, if_pos (by rw [hv]; exact Int.le_refl _)]
    exact List.mem_cons_self
  · by_cases hle : rkR rows x ≤ rkR rows v
    · refine ⟨(x, r, 1, b), mk _ ?_, .inr ⟨hv, fun e => ?_⟩⟩
      · unfold tieStep
        rw [if_neg hne, if_pos hle]
        exact List.mem_cons_self
      · exfalso
        unfold rkR at hle
        rw [if_neg hn1, if_pos e] at hle
        omega
    · refine ⟨(r, x, 2, b), mk _ ?_, .inr ⟨hv, fun _ => ⟨rfl, rfl⟩⟩⟩
      unfold tieStep
      rw [if_neg hne, if_neg hle]
      exact List.mem_cons_self
theorem Made.sees (O : Made M rD l0 ls t cut) {m b : Int} (hm : 0 ≤ m ∧ m < ((rD.length + 1 : Nat) : Int)) (h : (false, b) ∈ dlOf (dsOf M rD t) m) : ∃ v, (eOf M rD l0 ls t cut).sight m b = some v := by
  refine Option.ne_none_iff_exists'.mp ((O.si.dom m b).mpr ?_)
  unfold pr
  rw [O.si.ended m (O.esmem hm)]
  show (false, b) ∈ (dlOf (dsOf M rD t) m).take ((dlOf (dsOf M rD t) m).length + 1)
  rw [List.take_of_length_le (by omega)]
  exact h
theorem Made.edge0 (O : Made M rD l0 ls t cut) : ∃ y, IsTie (eOf M rD l0 ls t cut) y ∧ y.1 = cOf rD.length t ∧ y.2.1 = num (rD.length + 1) t 1 := by
  have hc := O.rng _ List.mem_cons_self
  have hg := O.get (i := 0) (by have := O.n1; omega)
  obtain ⟨d, h1, h2, _⟩ := O.r_ hg
  have hr := O.rng _ (List.mem_cons_of_mem _ (List.mem_of_getElem? hg))
  obtain ⟨v, hv⟩ := O.sees hc (b := 0) (by rw [O.c_]; exact O.perm.mem_iff.mpr (by simp))
  have ev := O.si.sC 0 v hv (.inl rfl)
  have hx : num (rD.length + 1) t 1 ∈ (eOf M rD l0 ls t cut).rows 0 := O.rowsr.mpr ⟨hr, by rw [h2]; exact (O.row 0 d h1).first rfl⟩
  have hne : num (rD.length + 1) t 1 ≠ cOf rD.length t := fun e => (List.nodup_cons.mp O.nd).1 (e ▸ List.mem_of_getElem? hg)
  obtain ⟨y, hy, h | h⟩ := O.edge hv hx hne
  · have h0 : 0 ≤ num (rD.length + 1) t 1 := hr.1
    omega
  · exact ⟨y, hy, h.2 ev⟩
theorem Made.edgeI (O : Made M rD l0 ls t cut) {i : Nat} (hi : i + 1 < rD.length) : ∃ y, IsTie (eOf M rD l0 ls t cut) y ∧ y.1 = num (rD.length + 1) t (i + 1) ∧ y.2.1 = num (rD.length + 1) t (i + 2) := by
  have hq := O.get (i := i) (by omega)
  have hr := O.get (i := i + 1) hi
  obtain ⟨d, h1, h2, _⟩ := O.r_ hq
  obtain ⟨d', h1', h2', _⟩ := O.r_ hr
  have rq := O.rng _ (List.mem_cons_of_mem _ (List.mem_of_getElem? hq))
  have rr := O.rng _ (List.mem_cons_of_mem _ (List.mem_of_getElem? hr))
  have e := (O.row (i + 1) d' h1').link (by omega)
  have e2 : (9 + ((i + 1 : Nat) : Int)) = 10 + (i : Int) := by omega
  rw [e2] at e
  obtain ⟨v, hv⟩ := O.sees rr (b := 10 + (i : Int)) (by rw [h2']; exact e)
  have ev : v = num (rD.length + 1) t (i + 1) := O.si.sP i _ _ v hq hr hv
  have hx : num (rD.length + 1) t (i + 1) ∈ (eOf M rD l0 ls t cut).rows (10 + (i : Int)) := O.rowsr.mpr ⟨rq, by rw [h2]; exact (O.row i d h1).own⟩
  have hne : num (rD.length + 1) t (i + 1) ≠ num (rD.length + 1) t (i + 1 + 1) := fun e => by
    have nd := (List.nodup_cons.mp O.nd).2
    have := (List.getElem?_inj (i := i) (j := i + 1) (by rw [O.rslen]; omega) nd).mp (by rw [hq, hr, e])
    omega
  obtain ⟨y, hy, h | h⟩ := O.edge hv hx hne
  · exact ⟨y, hy, h.2⟩
  · exact absurd ev h.1
theorem Made.edgeN (O : Made M rD l0 ls t cut) : ∃ y, IsTie (eOf M rD l0 ls t cut) y ∧ y.1 = num (rD.length + 1) t rD.length ∧ y.2.1 = cOf rD.length t := by
  have hn := O.n1
  have hq := O.get (i := rD.length - 1) (by omega)
  have e1 : rD.length - 1 + 1 = rD.length := by omega
  obtain ⟨d, h1, h2, _⟩ := O.r_ hq
  rw [e1] at hq h2
  have rq := O.rng _ (List.mem_cons_of_mem _ (List.mem_of_getElem? hq))
  have hc := O.rng _ List.mem_cons_self
  obtain ⟨v, hv⟩ := O.sees rq (b := 1) (by rw [h2]; exact (O.row _ d h1).last e1)
  have ev := O.si.s1 _ v hv
  have hx : cOf rD.length t ∈ (eOf M rD l0 ls t cut).rows 1 := O.rowsr.mpr ⟨hc, by rw [O.c_]; exact O.perm.mem_iff.mpr (by simp)⟩
  have hne : cOf rD.length t ≠ num (rD.length + 1) t rD.length := fun e => (List.nodup_cons.mp O.nd).1 (e ▸ List.mem_of_getElem? hq)
  obtain ⟨y, hy, h | h⟩ := O.edge hv hx hne
  · have h0 : 0 ≤ cOf rD.length t := hc.1
    omega
  · exact ⟨y, hy, h.2 ev⟩
theorem Made.outg (O : Made M rD l0 ls t cut) (x : Int) (h0 : 0 ≤ x) (h1 : x < ((rD.length + 1 : Nat) : Int)) : ∃ y, IsTie (eOf M rD l0 ls t cut) y ∧ y.1 = x := by
  rcases List.mem_cons.mp (O.sur x h0 h1) with z | z
  · obtain ⟨y, hy, e, _⟩ := O.edge0
    exact ⟨y, hy, e.trans z.symm⟩
  · obtain ⟨i, hi, e⟩ := List.mem_iff_getElem.mp z
    obtain ⟨d, _, _, h3, h4⟩ := O.r_ (by rw [List.getElem?_eq_getElem hi, e])
    by_cases c : i + 1 < rD.length
    · obtain ⟨y, hy, e, _⟩ := O.edgeI c
      exact ⟨y, hy, e.trans h4.symm⟩
    · obtain ⟨y, hy, e, _⟩ := O.edgeN
      have : i + 1 = rD.length := by omega
      exact ⟨y, hy, by rw [e, h4, this]⟩
theorem Made.reach (O : Made M rD l0 ls t cut) (S : Int → Prop) (hS : ∀ y, IsTie (eOf M rD l0 ls t cut) y → (y.1 = cOf rD.length t ∨ S y.1) → S y.2.1) : S (cOf rD.length t) := by
  have hn := O.n1
  have up : ∀ i : Nat, i < rD.length → S (num (rD.length + 1) t (i + 1)) := by
    intro i
    induction i with
    | zero =>
      intro _
      obtain ⟨y, hy, e1, e2⟩ := O.edge0
      have := hS y hy (.inl e1)
      rwa [e2] at this
    | succ i ih =>
      intro hi
      obtain ⟨y, hy, e1, e2⟩ := O.edgeI hi
      have := hS y hy (.inr (by rw [e1]; exact ih (by omega)))
      rwa [e2] at this
  obtain ⟨y, hy, e1, e2⟩ := O.edgeN
  have h := up (rD.length - 1) (by omega)
  have e3 : rD.length - 1 + 1 = rD.length := by omega
  rw [e3] at h
  have := hS y hy (.inr (by rw [e1]; exact h))
  rwa [e2] at this
end
end K60

set_option Elab.async false
set_option linter.all false
set_option maxRecDepth 100000
set_option maxHeartbeats 8000000
/-! K61P: what the law asks of one cut. -/
namespace K60
open PySem L2 PySem.Spec
section
variable {P : Program} {w : World} {K : PySem.W.Frag} {mg : Str → Option Value} {base : Heap} {cC cE cR : Addr}
def spRight (K : PySem.W.Frag) (cC : Addr) : Sp := fun vs H Q _ => ∃ (v u : V) (p l : Addr) (M : Deal) (rD : List Deal) (l0 : Lv) (ls : List Lv) (t cut : Nat), vs = [v, u, .ref p, dueV l0 (rD.zip ls)] ∧ Made M rD l0 ls t cut ∧ DealsAt K H v (dsOf M rD t) ∧ LvsAt K H u (gsOf l0 ls t) ∧
  CutAt cC H p (cOf rD.length t) cut l ∧ SqL K H l ((rsOf rD.length t).map V.int) ∧ ∀ H', Same H H' → Q (.bl true) H'
theorem ok_law_right {f : Addr} {fd : FuncData} (F : Fun K "_law_right" "_law_right" s_law_right f fd) (T : Facts K mg cC cE cR) (c1 : C8.Cal P w K mg base 8 "cut_fault" (spCutFault K cC) []) (c2 : C8.Cal P w K mg base 7 "cut_weaving" (spWeaving K cC) []) (c3 : C8.Cal P w K mg base 9 "barred" (spBarred K) [])
    (mk : C8.Mak P w K mg base 9 "Run" cR (spRunInit K cE cR) []) (m1 : C8.Met P w K mg base 4 cR "ring" (spRunRing K cE cR) [.non]) : FnOk P w K mg base CX0 11 f fd ["_law_dealings", "_law_levels_here", "_law_cut", "_law_due_here"] (spRight K cC) := by
  refine F.ok sc_law_right (fun vs H Q E h => ?_) (fun cdv A outer s H vs Q E hr h => ?_)
  · obtain ⟨v, u, p, l, M, rD, l0, ls, t, cut, rfl, _⟩ := h; rfl
  · obtain ⟨v, u, p, l, M, rD, l0, ls, t, cut, rfl, O, hD, hL, hC, hl, k⟩ := h
    have nd := sc_law_right.nd
    refine ⟨_, pss_cons (ps_if (pt_cmpR op_ne (C8.pe_c c1 hr (by decide) rfl (pa_cons (pv 0) (pa_cons (pv 1) (pa_cons (pv 2) pa_nil)))) (pv 3) (nomark _)) (pss_one (ps_ret pe_bl)) pss_nil)
      (pss_cons (ps_set (i := 4) nd rfl (Or.inl rfl) (C8.pe_c c2 hr (by decide) rfl (pa_cons (pv 0) (pa_cons (pv 2) pa_nil))))
      (pss_cons (ps_set (i := 5) nd rfl (Or.inl rfl) (C8.pe_c c3 hr (by decide) rfl (pa_cons (pv 0) (pa_cons (pv 1) (pa_cons (pv 4) pa_nil)))))
      (pss_cons (ps_if (pt_cmpR op_isN (pv 3) pe_non (nomark _)) (pss_one (ps_ret (pe_and (pe_cmpR op_isN (pv 5) pe_non (nomark _)) (pe_one (pe_cmpR op_notN (C8.pe_mt0 m1 hr (by decide) (C8.pe_mk mk hr (by decide) rfl (pa_cons (pv 0) (pa_cons (pv 1) (pa_cons (pv 4) pa_nil))))) pe_non (nomark _)))))) pss_nil)
      (pss_one (ps_ret (pe_and (pe_cmpR op_notN (pv 5) pe_non (nomark _)) (pe_one (pe_cmpR op_eq (pe_ix ix_tup (pv 5) pe_int (fun _ _ => rfl)) pe_str (nomark _))))))))), ?_⟩
    have sc : scal (dueV l0 (rD.zip ls)) (dueV l0 (rD.zip ls)) = true := by unfold dueV; split <;> rfl
    refine ⟨_, rfl, _, rfl, _, rfl, v, u, p, l, dsOf M rD t, gsOf l0 ls t, cOf rD.length t, cut, rsOf rD.length t, 0, rfl, hD, hL, hC, hl, O.fine, fun H1 S1 => ?_⟩
    rw [O.fault]
    refine ⟨_, rfl, sc, false, congrArg V.bl (by simp), iteF ?_⟩
    refine ⟨_, rfl, _, rfl, v, p, l, dsOf M rD t, cOf rD.length t, cut, rsOf rD.length t, rfl, hD.mono S1, O.dsOk, hC.mono S1, S1.seq hl, O.fine.pre, fun m h0 h1 => O.sur m h0 (by rw [← O.dslen]; exact h1), O.fine.few, fun q H2 S2 hq => ?_⟩
    have S02 := S1.trans S2
    have due := O.due
    refine ⟨_, rfl, _, rfl, _, rfl, v, u, q, dsOf M rD t, gsOf l0 ls t, wsOf M rD t cut, rfl, hD.mono S02, O.dsOk, hL.mono S02, O.gslen, hq, O.isWeave, O.goes, fun H3 hno S3 => ?_, fun H3 p3 i y hb S3 hp3 => ?_⟩
    · -- let by wholly
      have nodue : ¬ (decide (l0 = .whole) && dueW (rD.zip ls) false) = true := fun h => by
        obtain ⟨i, hi⟩ := O.due_bar (due.mpr h)
        exact hno i hi
      have ev : dueV l0 (rD.zip ls) = .non := by unfold dueV; rw [if_neg nodue]
      rw [ev]
      have S03 := S02.trans S3
      refine ⟨_, rfl, rfl, true, rfl, iteT ⟨_, rfl, rfl, true, rfl, iteT ?_⟩⟩
      refine ⟨_, rfl, _, rfl, _, rfl, fun x dx hx hdx hne => ?_⟩
      have hx1 : (upd H3 dx (.own x)) x = none := by rw [upd_ne (Ne.symm hne)]; exact hx
      have Sx : Same H3 (upd (upd H3 dx (.own x)) x (.ins cR dx [])) := (same_new hdx).trans (same_new hx1)
      refine ⟨H3, x, dx, v, u, q, dsOf M rD t, gsOf l0 ls t, wsOf M rD t cut, rfl, upd_same, Sx, hx, hD.mono S03, O.dsOk, hL.mono S03, O.gslen, S3.seq hq, O.isWeave, O.goes, hno, fun H4 a b c L g B us hx4 ha hul R hB => ⟨rfl, ?_⟩⟩
      have hN : (dsOf M rD t).length = rD.length + 1 := O.dslen
      have rngT : ∀ t', IsTie (eOf M rD l0 ls t cut) t' → (0 ≤ t'.1 ∧ t'.1 < ((dsOf M rD t).length : Nat)) ∧ 0 ≤ t'.2.1 ∧ t'.2.1 < ((dsOf M rD t).length : Nat) := fun t' ht' => by rw [hN]; exact O.tieR t' ht'
      refine ⟨x, dx, _, rfl, hx4, rfl, x, dx, a, b, c, us, (dsOf M rD t).length, B, H3, L, g, eOf M rD l0 ls t cut, cOf rD.length t, rfl, hx4, ha, hul, R, hB, O.tiesF, by rw [hN]; have := O.n6; omega, rngT, fun z z0 z1 => O.outg z z0 (by rw [← hN]; exact z1), (O.rng _ List.mem_cons_self).1, by rw [hN]; exact (O.rng _ List.mem_cons_self).2, O.reach, fun p5 H5 S5 => ?_⟩
      exact ⟨rfl, k H5 (S03.trans (R.base.trans S5))⟩
    · -- barred
      have isdue := due.mp (O.bar i hb)
      have ev : dueV l0 (rD.zip ls) = .str "barred" := by unfold dueV; rw [if_pos isdue]
      rw [ev]
      refine ⟨_, rfl, rfl, false, rfl, iteF ⟨_, rfl, rfl, true, rfl, iteT ?_⟩⟩
      exact ⟨_, rfl, p3, _, _, _, rfl, rfl, SqT.of hp3, atI_nat (j := 1) rfl, rfl, k H3 (S02.trans S3)⟩
end
end K60

set_option Elab.async false
set_option linter.all false
set_option maxRecDepth 100000
set_option maxHeartbeats 8000000
/-! K61Q: the law. -/
namespace K60
open PySem L2 PySem.Spec
theorem cut_dr (xs : List V) (n : Nat) (h : n ≤ xs.length) : cutV xs (some (n : Int)) none = xs.drop n := by
  unfold cutV
  rw [HT.sIx_none, HT.sIx_nat, Nat.min_eq_left h]
  exact List.take_of_length_le (by rw [List.length_drop]; exact Nat.le_refl _)
theorem num_val (n t j : Nat) : ((0 + (j : Int)) - (t : Int)) % ((n : Int) + 1) = num (n + 1) t j := by
  unfold num
  rw [Int.zero_add]; rfl
def spLaw (K : PySem.W.Frag) : Sp := fun vs H Q _ => ∃ (a : Addr) (ns : List Int), vs = [.ref a] ∧ SqL K H a (ns.map V.int) ∧ ns.length ≤ 63 ∧ ∀ H', Q (.bl true) H'
abbrev lNames : List Str := ["_law_script", "_law_k", "_law_state", "_law_many", "_law_mine", "_law_row", "_law_levels_here", "_law_due_here", "_law_turn", "_law_numbers", "_law_dealings", "_law_grades", "_law_cut", "_law_j"]
theorem Fr.put {s p : Addr} {H H1 : Hp} (a : Fr s H H1) (hp : H p = none) (o : HO) : Fr s H (L2.upd H1 p o) := fun c u h n => by
  rw [upd_ne (fun z => by rw [z, hp] at h; cases h)]
  exact a c u h n
theorem StOk.put {s p : Addr} {H : Hp} (h : StOk H s) (n : p ≠ s) (o : HO) : StOk (L2.upd H p o) s := by
  rcases h with ⟨c, h⟩ | ⟨x, y, z, h⟩
  · exact .inl ⟨c, by rw [upd_ne n.symm]; exact h⟩
  · exact .inr ⟨x, y, z, by rw [upd_ne n.symm]; exact h⟩
section
variable {P : Program} {w : World} {K : PySem.W.Frag} {mg : Str → Option Value} {base : Heap} {cC cE cR : Addr}
theorem ok_law {f : Addr} {fd : FuncData} (F : Fun K "law" "law" s_law f fd) (T : Facts K mg cC cE cR) (c1 : C8.Cal P w K mg base 1 "_law_cell_at" (spCellAt K) []) (c2 : C8.Cal P w K mg base 1 "_law_digit" spDigit []) (c3 : C8.Cal P w K mg base 2 "_law_turned" (spTurned K) []) (c4 : C8.Cal P w K mg base 3 "_law_other" (spOther K) [])
    (c5 : C8.Cal P w K mg base 2 "_law_levels" (spLawLv K) []) (c6 : C8.Cal P w K mg base 1 "_law_due" (spLawDue K) []) (mk : C8.Mak P w K mg base 1 "Cut" cC (spCutInit K cC) []) (c7 : C8.Cal P w K mg base 11 "_law_right" (spRight K cC) []) : FnOk P w K mg base CX0 12 f fd ["_law_script"] (spLaw K) := by
  refine F.ok sc_law (fun vs H Q E h => ?_) (fun cdv A outer sh H vs Q E hr h => ?_)
  · obtain ⟨a, ns, rfl, _⟩ := h; rfl
  · obtain ⟨sa, ns, rfl, hns, n63, k⟩ := h
    have nd := sc_law.nd
    have hu65 := hu65_of hr
    refine ⟨_, pss_cons (ps_for PassesOwn.never rfl (pi_range1 (by rfl) T.z_range (pa_cons (pe_callB (call_max2 rfl) (by rfl) T.z_max (by decide +kernel) (pa_cons pe_int (pa_cons (pe_callB (call_min2 rfl) (by rfl) T.z_min (by decide +kernel) (pa_cons pe_int (pa_cons (pe_callB call_len_seq (by rfl) T.z_len PySem.boot_len (pa_cons (pv 0) pa_nil)) pa_nil))) pa_nil))) pa_nil)) (pg_name (i := 1) nd rfl (Or.inl rfl))
        (pss_cons (ps_set (i := 2) nd rfl (Or.inr rfl) (pe_lst (pa_cons (pe_op op_add (C8.pe_c c1 hr (by decide) rfl (pa_cons (pv 0) (pa_cons (pv 1) pa_nil))) (pe_op op_mul pe_int (pv 1))) pa_nil)))
        (pss_cons (ps_set (i := 3) nd rfl (Or.inr rfl) (pe_op op_add pe_int (C8.pe_c c2 hr (by decide) rfl (pa_cons (pv 2) (pa_cons pe_int pa_nil)))))
        (pss_cons (ps_set (i := 4) nd rfl (Or.inl rfl) (C8.pe_c c3 hr (by decide) rfl (pa_cons (pv 2) (pa_cons (pe_lst (pa_cons (pe_tup (pa_cons pe_str (pa_cons pe_int pa_nil))) (pa_cons (pe_tup (pa_cons pe_str (pa_cons pe_int pa_nil))) (pa_cons (pe_tup (pa_cons pe_str (pa_cons pe_int pa_nil))) pa_nil)))) pa_nil))))
        (pss_cons (ps_setLc (i := 5) (own := [("_law_j", 13)]) (g := gName 13) (tt := tYes) (te := tCall (spOther K) [] C8.E0 (tCons (tVar 2) (tCons (tVar 13) (tCons (tVar 3) tNil)))) rfl nd rfl rfl (sw_true rfl rfl rfl (by decide +kernel)) (pi_range1 (by rfl) T.z_range (pa_cons (pv 3) pa_nil)) (blkOk_by (own := [("_law_j", 13)]) (N := lNames) (sc := defScope s_law) (by decide +kernel))
            (fun _ _ _ _ _ => pg_name (i := 13) nd rfl (Or.inl rfl)) (fun _ _ _ _ _ => pts_nil) (fun _ _ _ _ _ => C8.pe_c c4 hr (by decide) rfl (pa_cons (pv 2) (pa_cons (pv 13) (pa_cons (pv 3) pa_nil)))))
        (pss_cons (ps_set (i := 6) nd rfl (Or.inl rfl) (C8.pe_c c5 hr (by decide) rfl (pa_cons (pv 2) (pa_cons (pe_op op_add (pv 3) pe_int) pa_nil))))
        (pss_cons (ps_if (pt_cmpR op_gt (C8.pe_c c2 hr (by decide) rfl (pa_cons (pv 2) (pa_cons pe_int pa_nil))) pe_int (nomark _)) (pss_one (ps_asg pe_str (pg_sub (pv 6) pe_int set_list))) pss_nil)
        (pss_cons (ps_set (i := 7) nd rfl (Or.inl rfl) (C8.pe_c c6 hr (by decide) rfl (pa_cons (pv 4) (pa_cons (pv 5) (pa_cons (pv 6) pa_nil)))))
        (pss_cons (ps_set (i := 8) nd rfl (Or.inr rfl) (C8.pe_c c2 hr (by decide) rfl (pa_cons (pv 2) (pa_cons (pe_op op_add (pv 3) pe_int) pa_nil))))
        (pss_cons (ps_setLc (i := 9) (own := [("_law_j", 13)]) (g := gName 13) (tt := tYes) (te := tOp (rI (fun _ j => 0 < j) fun i j => .int (i % j)) (tOp (rI0 fun i j => .int (i - j)) (tVar 13) (tVar 8)) (tOp (rI0 fun i j => .int (i + j)) (tVar 3) (tC (.int 1)))) rfl nd rfl rfl (sw_true rfl rfl rfl (by decide +kernel)) (pi_range1 (by rfl) T.z_range (pa_cons (pe_op op_add (pv 3) pe_int) pa_nil)) (blkOk_by (own := [("_law_j", 13)]) (N := lNames) (sc := defScope s_law) (by decide +kernel))
            (fun _ _ _ _ _ => pg_name (i := 13) nd rfl (Or.inl rfl)) (fun _ _ _ _ _ => pts_nil) (fun _ _ _ _ _ => pe_op op_mod (pe_op op_sub (pv 13) (pv 8)) (pe_op op_add (pv 3) pe_int)))
        (pss_cons (ps_set (i := 10) nd rfl (Or.inl rfl) (pe_op op_cat (pe_slice sl_list (pe_op op_cat (pe_lst (pa_cons (pv 4) pa_nil)) (pv 5)) (po_some (pv 8)) po_none) (pe_slice sl_list (pe_op op_cat (pe_lst (pa_cons (pv 4) pa_nil)) (pv 5)) po_none (po_some (pv 8)))))
        (pss_cons (ps_set (i := 11) nd rfl (Or.inl rfl) (pe_op op_cat (pe_slice sl_list (pv 6) (po_some (pv 8)) po_none) (pe_slice sl_list (pv 6) po_none (po_some (pv 8)))))
        (pss_cons (ps_set (i := 12) nd rfl (Or.inl rfl) (C8.pe_mk mk hr (by decide) rfl (pa_cons (pe_ix ix_list (pv 9) pe_int (fun _ _ => rfl)) (pa_cons (pe_tupM PySem.F.plainAttrs_tuple PySem.F.slot_tuple_index PySem.F.type_tuple_index (mt_tupIx hu65) (pv 4) (pa_cons (pe_tup (pa_cons pe_str (pa_cons pe_int pa_nil))) pa_nil)) (pa_cons (pe_slice sl_list (pv 9) (po_some pe_int) po_none) pa_nil)))))
        (pss_one (ps_if (pt_not (pt_val (C8.pe_c c7 hr (by decide) rfl (pa_cons (pv 10) (pa_cons (pv 11) (pa_cons (pv 12) (pa_cons (pv 7) pa_nil))))))) (pss_one (ps_ret pe_bl)) pss_nil)))))))))))))))
      (pss_one (ps_ret pe_bl)), ?_⟩
    have ml : ∀ z : Int, 0 ≤ z → z ≤ 63 → ((if (if z < 16 then z else 16) > 1 then (if z < 16 then z else 16) else 1) : Int) ≤ 16 ∧ (0 : Int) ≤ (if (if z < 16 then z else 16) > 1 then (if z < 16 then z else 16) else 1) := fun z h0 h1 => by
      split <;> split <;> omega
    refine ⟨_, rfl, sa, _, rfl, .inl hns, _, _, rfl, _, _, rfl, _, rfl, ?_, ?_, ?_⟩
    · have := ml (ns.map V.int).length (by omega) (by rw [List.length_map]; omega); omega
    · have := ml (ns.map V.int).length (by omega) (by rw [List.length_map]; omega); omega
    refine for_it walk_range (fun i σ H' => ∃ o1 o2 o3 o4 o5 o6 o7 o8 o9 o10 o11 o12, σ = [some (.ref sa), o1, o2, o3, o4, o5, o6, o7, o8, o9, o10, o11, o12, none] ∧ Same H H') ⟨_, _, _, _, _, _, _, _, _, _, _, _, rfl, Same.refl H⟩ (fun _ _ _ _ _ => trivial) ?_ ?_
    · rintro kk v σ H1 H1' hkk ⟨o1, o2, o3, o4, o5, o6, o7, o8, o9, o10, o11, o12, rfl, S1⟩ ⟨hH, rfl⟩
      subst hH
      generalize H1' = H1 at S1 ⊢
      refine ⟨_, rfl, _, by show _ = some (some (V.int (((kk : Nat) : Int)))); exact congrArg (fun z => some (some (V.int z))) (by omega), sa, kk, ns, rfl, S1.seq hns, fun z => ⟨_, rfl, _, _, rfl, rfl, .inl ⟨by decide, by decide⟩, _, _, rfl, rfl, Nat.le_of_ble_eq_true rfl, fun s hs => ?_⟩⟩
      have Ss := same_new (o := .lst [.int (z + 89 * (0 + (kk : Int)))]) hs
      have st2 : StOk (upd H1 s (.lst [.int (z + 89 * (0 + (kk : Int)))])) s := .inl ⟨_, upd_same⟩
      have S2 := S1.trans Ss
      have hs0 : H s = none := none_of S1 hs
      generalize (upd H1 s (.lst [.int (z + 89 * (0 + (kk : Int)))])) = H2 at st2 S2 ⊢
      refine ⟨_, rfl, s, 6, rfl, by decide, by decide, st2, fun dd H3 d0 d1 f3 st3 => ⟨_, _, rfl, rfl, ?_⟩⟩
      obtain ⟨n, hn⟩ : ∃ n : Nat, (1 : Int) + dd = (n : Nat) := ⟨(1 + dd).toNat, by omega⟩
      show gName 3 (V.int (1 + dd)) _ _ _
      rw [hn]
      refine ⟨_, rfl, Nat.le_of_ble_eq_true rfl, fun t1 ht1 => ⟨Nat.le_of_ble_eq_true rfl, fun t2 ht2 => ⟨Nat.le_of_ble_eq_true rfl, fun t3 ht3 => ⟨Nat.le_of_ble_eq_true rfl, fun q hq => ?_⟩⟩⟩⟩
      have Sa1 := same_new (o := .tup [.str "read", .int 0]) ht1
      have Sa2 := same_new (o := .tup [.str "read", .int 2]) ht2
      have Sa3 := same_new (o := .tup [.str "write", .int 1]) ht3
      have Sa4 := same_new (o := .lst [.ref t1, .ref t2, .ref t3]) hq
      refine ⟨s, q, [.ref t1, .ref t2, .ref t3], [(false, 0), (false, 2), (true, 1)], rfl, st3.same (((Sa1.trans Sa2).trans Sa3).trans Sa4), SqL.of upd_same,
        .cons ⟨t1, rfl, SqT.of (Sa4 _ _ (Sa3 _ _ (Sa2 _ _ upd_same)))⟩ (.cons ⟨t2, rfl, SqT.of (Sa4 _ _ (Sa3 _ _ upd_same))⟩ (.cons ⟨t3, rfl, SqT.of (Sa4 _ _ upd_same)⟩ .nil)), by decide, fun pM M H4 f4 st4 hM4 perm tD4 => ?_⟩
      have fr4 := (f3.trans (Fr.of (((Sa1.trans Sa2).trans Sa3).trans Sa4))).trans f4
      obtain ⟨sl4, hs4⟩ := st4.lst
      refine ⟨_, rfl, _, rfl, by omega, by omega, fun r hr0 => lc_range (n := (n : Int).toNat) (fun i H' => Fr s H4 H' ∧ StOk H' s ∧ ∃ uv rD, H' r = some (.lst uv) ∧ Paired (DealAt K H') uv rD ∧ rD.length = i ∧ ∀ (j : Nat) d, rD[j]? = some d → RowOk j n d) ⟨Fr.of (same_new hr0), st4.same (same_new hr0), [], [], upd_same, .nil, rfl, fun j d h => by simp at h⟩ ?_ ?_⟩
      · rintro i Hb hi ⟨fb, stb, uv, rD, hrb, pub, lrD, rok⟩
        have nrs : r ≠ s := fun z => by rw [z, hs4] at hr0; cases hr0
        refine ⟨rfl, yesT ⟨_, rfl, _, rfl, _, rfl, s, i, n, congrArg (fun z => [V.ref s, V.int z, V.int (n : Nat)]) (Int.zero_add _), by omega, by omega, stb, fun p d H' f' st' hd' ok' => ?_⟩⟩
        have hr' := f' _ _ hrb nrs
        have luv := paired_len pub
        have w := (f'.tup stb).trans (TupS.lst (u := .lst (uv ++ [.ref p])) hr')
        refine ⟨uv, hr', small1000 (by omega), (fb.trans f').put hr0 _, st'.put nrs _, uv ++ [.ref p], rD ++ [d], upd_same, paired_snoc (Paired.mapP pub fun _ _ => DealAt.tmono w) (hd'.tmono (TupS.lst (u := .lst (uv ++ [.ref p])) hr')), by simp [lrD], fun j d' h => ?_⟩
        by_cases c : j < rD.length
        · rw [List.getElem?_append_left c] at h; exact rok j d' h
        · rw [List.getElem?_append_right (by omega)] at h
          have hj : j - rD.length = 0 := by
            have := (List.getElem?_eq_some_iff.mp h).1
            simp at this; omega
          rw [hj] at h
          simp at h
          have : j = i := by omega
          rw [this, ← h]; exact ok'
      rintro H5 ⟨f5, st5, uv, rD, hr5, pu5, lrD, rowok⟩
      have lrD : rD.length = n := by omega
      have nrs : r ≠ s := fun z => by rw [z, hs4] at hr0; cases hr0
      have luv5 := paired_len pu5
      refine ⟨_, rfl, _, rfl, _, _, rfl, rfl, s, n + 1, rfl, by omega, st5, fun lp L H6 f6 st6 nlp hlpN hlp6 hlen => ?_⟩
      obtain ⟨l00, ls, rfl⟩ : ∃ l0 ls, L = l0 :: ls := by
        cases L with
        | nil => simp at hlen
        | cons a b => exact ⟨a, b, rfl⟩
      have hlsl : ls.length = n := by simpa using hlen
      have fr6 := (fr4.trans f5).trans f6
      have w6 := (f5.tup st4).trans (f6.tup st5)
      have hM6 := hM4.tmono w6
      have tD6 := tD4.mono w6
      have hr6 := f6 _ _ hr5 nrs
      have pu6 := Paired.mapP pu5 fun _ _ => DealAt.tmono (f6.tup st5)
      refine ⟨_, rfl, s, 4, rfl, by decide, by decide, st6, fun x7 H7 x0 x1 f7 st7 => ⟨_, _, rfl, rfl, _, rfl, ?_⟩⟩
      have fr7 := fr6.trans f7
      have w7 := f7.tup st6
      have hM7 := hM6.tmono w7
      have tD7 := tD6.mono w7
      have hr7 := f7 _ _ hr6 nrs
      have pu7 := Paired.mapP pu6 fun _ _ => DealAt.tmono w7
      have hlp7 := f7 _ _ hlp6 nlp
      have H2lp : H2 lp = none := by
        cases e : H2 lp with
        | none => rfl
        | some o => rw [(fr4.trans f5) _ _ e nlp] at hlpN; cases hlpN
      have nrl : r ≠ lp := fun z => by rw [z, hlpN] at hr5; cases hr5
      by_cases cx : 0 < x7
      · rw [decide_eq_true cx]
        refine iteT ⟨_, rfl, lp, _, 0, 0, rfl, rfl, hlp7, (by show ixN _ ((0 : Nat) : Int) = some 0; exact ixN_j (by simp)), ?_⟩
        have wL := TupS.lst (u := .lst (((l00 :: ls).map fun l => V.str (lvS l)).set 0 (.str "whole"))) hlp7
        have fr := fr7.put H2lp (.lst (((l00 :: ls).map fun l => V.str (lvS l)).set 0 (.str "whole")))
        have sta := st7.put nlp (.lst (((l00 :: ls).map fun l => V.str (lvS l)).set 0 (.str "whole")))
        have hM := hM7.tmono wL
        have tD := tD7.mono wL
        have hrr : (L2.upd H7 lp (.lst (((l00 :: ls).map fun l => V.str (lvS l)).set 0 (.str "whole")))) r = some (.lst uv) := by rw [upd_ne nrl]; exact hr7
        have puv := Paired.mapP pu7 fun _ _ => DealAt.tmono wL
        have hlp : (L2.upd H7 lp (.lst (((l00 :: ls).map fun l => V.str (lvS l)).set 0 (.str "whole")))) lp = some (.lst ((Lv.whole :: ls).map fun l => V.str (lvS l))) := upd_same
        generalize (L2.upd H7 lp (.lst (((l00 :: ls).map fun l => V.str (lvS l)).set 0 (.str "whole")))) = Ha at fr sta hM tD hrr puv hlp ⊢
        obtain ⟨l0, hl0⟩ : ∃ l0, l0 = Lv.whole := ⟨_, rfl⟩
        rw [← hl0] at hlp
        have szs : ∀ m : Nat, m ≤ 1000 → m ≤ sizeLine := fun m h => Nat.le_trans h (by decide)
        refine ⟨_, rfl, _, rfl, _, rfl, .ref pM, r, lp, uv, rD, l0, ls, rfl, SqL.of hrr, puv, SqL.of hlp, by rw [lrD]; omega, fun H8 S8 => ?_⟩
        have fr8 := fr.trans (Fr.of S8)
        have st8 := sta.same S8
        have hM8 := hM.mono S8
        have tD8 := tD.mono (TupS.of S8)
        have hrr8 := S8 _ _ hrr
        have puv8 := Paired.mapP puv fun _ _ => DealAt.mono S8
        have hlp8 := S8 _ _ hlp
        refine ⟨_, rfl, _, rfl, _, _, rfl, rfl, s, (n : Int) + 1, rfl, by omega, by omega, st8, fun tt H9 t0 t1 f9 st9 => ?_⟩
        obtain ⟨t, rfl⟩ := Int.eq_ofNat_of_zero_le t0
        have htn : t ≤ n := by omega
        have fr9 := fr8.trans f9
        have w9 := f9.tup st8
        have hM9 := hM8.tmono w9
        have tD9 := tD8.mono w9
        have hrr9 := f9 _ _ hrr8 nrs
        have puv9 := Paired.mapP puv8 fun _ _ => DealAt.tmono w9
        have hlp9 := f9 _ _ hlp8 nlp
        refine ⟨_, rfl, _, _, rfl, rfl, _, rfl, by omega, by omega, fun D hD => lc_range (n := ((n : Int) + 1).toNat) (fun i H' => Same H9 H' ∧ H' D = some (.lst (((List.range i).map (num (n + 1) t)).map V.int))) ⟨same_new hD, upd_same⟩ ?_ ?_⟩
        · rintro i Hb hi ⟨Sb, hDb⟩
          refine ⟨rfl, yesT ⟨_, rfl, _, rfl, _, _, rfl, rfl, _, rfl, _, _, rfl, rfl, _, _, rfl, rfl, (show (0 : Int) < (n : Int) + 1 by omega), _, hDb, ?_, same_upd Sb hD, ?_⟩⟩
          · rw [List.length_map, List.length_map, List.length_range]; exact small1000 (by omega)
          · rw [upd_same]
            show some (HO.lst (_ ++ [V.int ((0 + (i : Int) - (t : Int)) % ((n : Int) + 1))])) = _
            rw [num_val, List.range_succ, List.map_append, List.map_append]; rfl
        rintro Hb ⟨Sb, hDb⟩
        have en : ((n : Int) + 1).toNat = n + 1 := by omega
        rw [en] at hDb
        have hMb := hM9.mono Sb
        have tDb := tD9.mono (TupS.of Sb)
        have hrb := Sb _ _ hrr9
        have pub := Paired.mapP puv9 fun _ _ => DealAt.mono Sb
        have hlb := Sb _ _ hlp9
        have frb := fr9.trans (Fr.of Sb)
        have luv := paired_len pub
        -- dealings
        refine ⟨_, rfl, Nat.le_of_ble_eq_true rfl, fun q1 hq1 => ⟨_, rfl, q1, r, [.ref pM], uv, rfl, rfl, upd_same, (same_new hq1) _ _ hrb, szs _ (by simp only [List.length_cons, List.length_nil]; omega), fun q2 hq2 => ⟨_, rfl, (t : Int), rfl, q2, _, rfl, SqL.of upd_same, fun q3 hq3 => ?_⟩⟩⟩
        have Sx := ((same_new (o := .lst [.ref pM]) hq1).trans (same_new (o := .lst ([.ref pM] ++ uv)) hq2)).trans (same_new (o := .lst (cutV ([.ref pM] ++ uv) (some (t : Int)) none)) hq3)
        have hq3' : (L2.upd (L2.upd (L2.upd Hb q1 (.lst [.ref pM])) q2 (.lst ([.ref pM] ++ uv))) q3 (.lst (cutV ([.ref pM] ++ uv) (some (t : Int)) none))) q3 = some (.lst ((.ref pM :: uv).drop t)) := by
          rw [upd_same, cut_dr _ _ (by simp; omega)]; rfl
        generalize (L2.upd (L2.upd (L2.upd Hb q1 (.lst [.ref pM])) q2 (.lst ([.ref pM] ++ uv))) q3 (.lst (cutV ([.ref pM] ++ uv) (some (t : Int)) none))) = Hc at Sx hq3' ⊢
        refine ⟨_, rfl, Nat.le_of_ble_eq_true rfl, fun q4 hq4 => ⟨_, rfl, q4, r, [.ref pM], uv, rfl, rfl, upd_same, (same_new hq4) _ _ (Sx _ _ hrb), szs _ (by simp only [List.length_cons, List.length_nil]; omega), fun q5 hq5 => ⟨_, rfl, (t : Int), rfl, q5, _, rfl, SqL.of upd_same, fun q6 hq6 => ?_⟩⟩⟩
        have Sy := ((same_new (o := .lst [.ref pM]) hq4).trans (same_new (o := .lst ([.ref pM] ++ uv)) hq5)).trans (same_new (o := .lst (cutV ([.ref pM] ++ uv) none (some (t : Int)))) hq6)
        have hq6' : (L2.upd (L2.upd (L2.upd Hc q4 (.lst [.ref pM])) q5 (.lst ([.ref pM] ++ uv))) q6 (.lst (cutV ([.ref pM] ++ uv) none (some (t : Int))))) q6 = some (.lst ((.ref pM :: uv).take t)) := by
          rw [upd_same, cut_to]; rfl
        generalize (L2.upd (L2.upd (L2.upd Hc q4 (.lst [.ref pM])) q5 (.lst ([.ref pM] ++ uv))) q6 (.lst (cutV ([.ref pM] ++ uv) none (some (t : Int))))) = Hd at Sy hq6' ⊢
        refine ⟨q3, q6, _, _, rfl, rfl, Sy _ _ hq3', hq6', szs _ (by simp only [List.length_drop, List.length_take, List.length_cons]; omega), fun q7 hq7 => ?_⟩
        have Sz := (Sx.trans Sy).trans (same_new (o := .lst (List.drop t (.ref pM :: uv) ++ List.take t (.ref pM :: uv))) hq7)
        have hq7' : (L2.upd Hd q7 (.lst (List.drop t (.ref pM :: uv) ++ List.take t (.ref pM :: uv)))) q7 = some (.lst (List.drop t (.ref pM :: uv) ++ List.take t (.ref pM :: uv))) := upd_same
        generalize (L2.upd Hd q7 (.lst (List.drop t (.ref pM :: uv) ++ List.take t (.ref pM :: uv)))) = He at Sz hq7' ⊢
        -- grades
        have ll : ((l0 :: ls).map fun l => V.str (lvS l)).length = n + 1 := by rw [List.length_map, List.length_cons]; omega
        refine ⟨_, rfl, _, rfl, (t : Int), rfl, lp, _, rfl, SqL.of (Sz _ _ hlb), fun g3 hg3 => ?_⟩
        have Su := same_new (o := .lst (cutV ((l0 :: ls).map fun l => V.str (lvS l)) (some (t : Int)) none)) hg3
        have hg3' : (L2.upd He g3 (.lst (cutV ((l0 :: ls).map fun l => V.str (lvS l)) (some (t : Int)) none))) g3 = some (.lst (((l0 :: ls).drop t).map fun l => V.str (lvS l))) := by
          rw [upd_same, cut_dr _ _ (by omega), List.map_drop]
        generalize (L2.upd He g3 (.lst (cutV ((l0 :: ls).map fun l => V.str (lvS l)) (some (t : Int)) none))) = Hg at Su hg3' ⊢
        refine ⟨_, rfl, _, rfl, (t : Int), rfl, lp, _, rfl, SqL.of (Su _ _ (Sz _ _ hlb)), fun g6 hg6 => ?_⟩
        have Sv := same_new (o := .lst (cutV ((l0 :: ls).map fun l => V.str (lvS l)) none (some (t : Int)))) hg6
        have hg6' : (L2.upd Hg g6 (.lst (cutV ((l0 :: ls).map fun l => V.str (lvS l)) none (some (t : Int))))) g6 = some (.lst (((l0 :: ls).take t).map fun l => V.str (lvS l))) := by
          rw [upd_same, cut_to, List.map_take]
        generalize (L2.upd Hg g6 (.lst (cutV ((l0 :: ls).map fun l => V.str (lvS l)) none (some (t : Int))))) = Hh at Sv hg6' ⊢
        refine ⟨g3, g6, _, _, rfl, rfl, Sv _ _ hg3', hg6', szs _ (by simp only [List.length_map, List.length_drop, List.length_take, List.length_cons]; omega), fun g7 hg7 => ?_⟩
        have Sw := ((Sz.trans Su).trans Sv).trans (same_new (o := .lst ((((l0 :: ls).drop t).map fun l => V.str (lvS l)) ++ (((l0 :: ls).take t).map fun l => V.str (lvS l)))) hg7)
        have hq8 := (same_new (o := .lst ((((l0 :: ls).drop t).map fun l => V.str (lvS l)) ++ (((l0 :: ls).take t).map fun l => V.str (lvS l)))) hg7) _ _ (Sv _ _ (Su _ _ hq7'))
        have hg7' : (L2.upd Hh g7 (.lst ((((l0 :: ls).drop t).map fun l => V.str (lvS l)) ++ (((l0 :: ls).take t).map fun l => V.str (lvS l))))) g7 = some (.lst ((rot (l0 :: ls) t).map fun l => V.str (lvS l))) := by
          rw [upd_same]; unfold rot; rw [List.map_append]
        generalize (L2.upd Hh g7 (.lst ((((l0 :: ls).drop t).map fun l => V.str (lvS l)) ++ (((l0 :: ls).take t).map fun l => V.str (lvS l))))) = Hi at Sw hq8 hg7' ⊢
        -- the cut
        have hDi := Sw _ _ hDb
        have nrng : (List.range (n + 1)).map (num (n + 1) t) = cOf n t :: rsOf n t := by rw [List.range_succ_eq_map, List.map_cons, List.map_map]; rfl
        rw [nrng] at hDi
        have hMi := hMb.mono Sw
        refine ⟨_, rfl, D, _, _, _, rfl, rfl, SqL.of hDi, atI_nat (j := 0) rfl, _, rfl, ⟨pM, rfl, tDb.mono (TupS.of Sw)⟩, Nat.le_of_ble_eq_true rfl, fun t8 ht8 => ?_⟩
        have S8t := same_new (o := .tup [.str "read", .int 0]) ht8
        refine ⟨M, .ref t8, (false, 0), rfl, hMi.mono S8t, ⟨t8, rfl, SqT.of upd_same⟩, perm.mem_iff.mpr (by simp), fun cut hcut => ?_⟩
        refine ⟨_, rfl, 1, rfl, D, _, rfl, SqL.of (S8t _ _ hDi), fun e9 he9 => ?_⟩
        have S9e := same_new (o := .lst (cutV ((cOf n t :: rsOf n t).map V.int) (some 1) none)) he9
        have e1 : cutV ((cOf n t :: rsOf n t).map V.int) (some 1) none = (rsOf n t).map V.int := by
          have := cut_from ((cOf n t :: rsOf n t).map V.int) 0
          simpa using this
        have he9' : (L2.upd (L2.upd Hi t8 (.tup [.str "read", .int 0])) e9 (.lst (cutV ((cOf n t :: rsOf n t).map V.int) (some 1) none))) e9 = some (.lst ((rsOf n t).map V.int)) := by rw [upd_same, e1]
        have Sj := (Sw.trans S8t).trans S9e
        have hq9 := S9e _ _ (S8t _ _ hq8)
        have hg9 := S9e _ _ (S8t _ _ hg7')
        generalize (L2.upd (L2.upd Hi t8 (.tup [.str "read", .int 0])) e9 (.lst (cutV ((cOf n t :: rsOf n t).map V.int) (some 1) none))) = Hj at he9' Sj hq9 hg9 ⊢
        refine fun x dx hx hdx hne => ?_
        have hx1 : (L2.upd Hj dx (.own x)) x = none := by rw [upd_ne (Ne.symm hne)]; exact hx
        have Sk : Same Hj (L2.upd (L2.upd Hj dx (.own x)) x (.ins cC dx [])) := (same_new hdx).trans (same_new hx1)
        refine ⟨x, dx, e9, cOf n t, (cut : Int), rsOf n t, rfl, upd_same, SqL.of (Sk _ _ he9'), fun l Hl _ hcutA hsq keep => ⟨rfl, ?_⟩⟩
        have Sl : Same Hj Hl := fun a o ha => keep a o (Sk a o ha) (fun z => by rw [z, hx] at ha; cases ha)
        have O : Made M rD l0 ls t cut := ⟨perm, hcut, by omega, by omega, by rw [lrD]; exact rowok, by omega, by omega⟩
        have hnn : n = rD.length := lrD.symm
        have Sbl := Sj.trans Sl
        have pdl : Paired (DealAt K Hl) (List.drop t (.ref pM :: uv) ++ List.take t (.ref pM :: uv)) (dsOf M rD t) := by
          have p0 : Paired (DealAt K Hl) (.ref pM :: uv) (M :: rD) := .cons (hMb.mono Sbl) (Paired.mapP pub fun _ _ => DealAt.mono Sbl)
          exact paired_append (paired_drop t p0) (paired_take t p0)
        subst hnn
        refine ⟨_, rfl, _, rfl, _, rfl, _, rfl, .ref q7, .ref g7, x, l, M, rD, l0, ls, t, cut, rfl, O, ⟨q7, _, rfl, SqL.of (Sl _ _ hq9), pdl⟩, ⟨g7, rfl, SqL.of (Sl _ _ hg9)⟩, hcutA, hsq, fun Hf Sf => ⟨true, rfl, iteF ?_⟩⟩
        have frf := frb.trans (Fr.of (Sbl.trans Sf))
        refine ⟨_, _, _, _, _, _, _, _, _, _, _, _, rfl, fun a o ha => frf a o (S2 a o ha) (fun z => by rw [z, hs0] at ha; cases ha)⟩
      · rw [decide_eq_false cx]
        refine iteF ?_
        obtain ⟨l0, hl0⟩ : ∃ l0, l0 = l00 := ⟨_, rfl⟩
        have fr := fr7
        have sta := st7
        have hM := hM7
        have tD := tD7
        have hrr := hr7
        have puv := pu7
        have hlp := hlp7
        rw [← hl0] at hlp
        obtain ⟨Ha, hHa⟩ : ∃ Ha, Ha = H7 := ⟨_, rfl⟩
        rw [← hHa] at fr sta hM tD hrr puv hlp ⊢
        have szs : ∀ m : Nat, m ≤ 1000 → m ≤ sizeLine := fun m h => Nat.le_trans h (by decide)
        refine ⟨_, rfl, _, rfl, _, rfl, .ref pM, r, lp, uv, rD, l0, ls, rfl, SqL.of hrr, puv, SqL.of hlp, by rw [lrD]; omega, fun H8 S8 => ?_⟩
        have fr8 := fr.trans (Fr.of S8)
        have st8 := sta.same S8
        have hM8 := hM.mono S8
        have tD8 := tD.mono (TupS.of S8)
        have hrr8 := S8 _ _ hrr
        have puv8 := Paired.mapP puv fun _ _ => DealAt.mono S8
        have hlp8 := S8 _ _ hlp
        refine ⟨_, rfl, _, rfl, _, _, rfl, rfl, s, (n : Int) + 1, rfl, by omega, by omega, st8, fun tt H9 t0 t1 f9 st9 => ?_⟩
        obtain ⟨t, rfl⟩ := Int.eq_ofNat_of_zero_le t0
        have htn : t ≤ n := by omega
        have fr9 := fr8.trans f9
        have w9 := f9.tup st8
        have hM9 := hM8.tmono w9
        have tD9 := tD8.mono w9
        have hrr9 := f9 _ _ hrr8 nrs
        have puv9 := Paired.mapP puv8 fun _ _ => DealAt.tmono w9
        have hlp9 := f9 _ _ hlp8 nlp
        refine ⟨_, rfl, _, _, rfl, rfl, _, rfl, by omega, by omega, fun D hD => lc_range (n := ((n : Int) + 1).toNat) (fun i H' => Same H9 H' ∧ H' D = some (.lst (((List.range i).map (num (n + 1) t)).map V.int))) ⟨same_new hD, upd_same⟩ ?_ ?_⟩
        · rintro i Hb hi ⟨Sb, hDb⟩
          refine ⟨rfl, yesT ⟨_, rfl, _, rfl, _, _, rfl, rfl, _, rfl, _, _, rfl, rfl, _, _, rfl, rfl, (show (0 : Int) < (n : Int) + 1 by omega), _, hDb, ?_, same_upd Sb hD, ?_⟩⟩
          · rw [List.length_map, List.length_map, List.length_range]; exact small1000 (by omega)
          · rw [upd_same]
            show some (HO.lst (_ ++ [V.int ((0 + (i : Int) - (t : Int)) % ((n : Int) + 1))])) = _
            rw [num_val, List.range_succ, List.map_append, List.map_append]; rfl
        rintro Hb ⟨Sb, hDb⟩
        have en : ((n : Int) + 1).toNat = n + 1 := by omega
        rw [en] at hDb
        have hMb := hM9.mono Sb
        have tDb := tD9.mono (TupS.of Sb)
        have hrb := Sb _ _ hrr9
        have pub := Paired.mapP puv9 fun _ _ => DealAt.mono Sb
        have hlb := Sb _ _ hlp9
        have frb := fr9.trans (Fr.of Sb)
        have luv := paired_len pub
        -- dealings
        refine ⟨_, rfl, Nat.le_of_ble_eq_true rfl, fun q1 hq1 => ⟨_, rfl, q1, r, [.ref pM], uv, rfl, rfl, upd_same, (same_new hq1) _ _ hrb, szs _ (by simp only [List.length_cons, List.length_nil]; omega), fun q2 hq2 => ⟨_, rfl, (t : Int), rfl, q2, _, rfl, SqL.of upd_same, fun q3 hq3 => ?_⟩⟩⟩
        have Sx := ((same_new (o := .lst [.ref pM]) hq1).trans (same_new (o := .lst ([.ref pM] ++ uv)) hq2)).trans (same_new (o := .lst (cutV ([.ref pM] ++ uv) (some (t : Int)) none)) hq3)
        have hq3' : (L2.upd (L2.upd (L2.upd Hb q1 (.lst [.ref pM])) q2 (.lst ([.ref pM] ++ uv))) q3 (.lst (cutV ([.ref pM] ++ uv) (some (t : Int)) none))) q3 = some (.lst ((.ref pM :: uv).drop t)) := by
          rw [upd_same, cut_dr _ _ (by simp; omega)]; rfl
        generalize (L2.upd (L2.upd (L2.upd Hb q1 (.lst [.ref pM])) q2 (.lst ([.ref pM] ++ uv))) q3 (.lst (cutV ([.ref pM] ++ uv) (some (t : Int)) none))) = Hc at Sx hq3' ⊢
        refine ⟨_, rfl, Nat.le_of_ble_eq_true rfl, fun q4 hq4 => ⟨_, rfl, q4, r, [.ref pM], uv, rfl, rfl, upd_same, (same_new hq4) _ _ (Sx _ _ hrb), szs _ (by simp only [List.length_cons, List.length_nil]; omega), fun q5 hq5 => ⟨_, rfl, (t : Int), rfl, q5, _, rfl, SqL.of upd_same, fun q6 hq6 => ?_⟩⟩⟩
        have Sy := ((same_new (o := .lst [.ref pM]) hq4).trans (same_new (o := .lst ([.ref pM] ++ uv)) hq5)).trans (same_new (o := .lst (cutV ([.ref pM] ++ uv) none (some (t : Int)))) hq6)
        have hq6' : (L2.upd (L2.upd (L2.upd Hc q4 (.lst [.ref pM])) q5 (.lst ([.ref pM] ++ uv))) q6 (.lst (cutV ([.ref pM] ++ uv) none (some (t : Int))))) q6 = some (.lst ((.ref pM :: uv).take t)) := by
          rw [upd_same, cut_to]; rfl
        generalize (L2.upd (L2.upd (L2.upd Hc q4 (.lst [.ref pM])) q5 (.lst ([.ref pM] ++ uv))) q6 (.lst (cutV ([.ref pM] ++ uv) none (some (t : Int))))) = Hd at Sy hq6' ⊢
        refine ⟨q3, q6, _, _, rfl, rfl, Sy _ _ hq3', hq6', szs _ (by simp only [List.length_drop, List.length_take, List.length_cons]; omega), fun q7 hq7 => ?_⟩
        have Sz := (Sx.trans Sy).trans (same_new (o := .lst (List.drop t (.ref pM :: uv) ++ List.take t (.ref pM :: uv))) hq7)
        have hq7' : (L2.upd Hd q7 (.lst (List.drop t (.ref pM :: uv) ++ List.take t (.ref pM :: uv)))) q7 = some (.lst (List.drop t (.ref pM :: uv) ++ List.take t (.ref pM :: uv))) := upd_same
        generalize (L2.upd Hd q7 (.lst (List.drop t (.ref pM :: uv) ++ List.take t (.ref pM :: uv)))) = He at Sz hq7' ⊢
        -- grades
        have ll : ((l0 :: ls).map fun l => V.str (lvS l)).length = n + 1 := by rw [List.length_map, List.length_cons]; omega
        refine ⟨_, rfl, _, rfl, (t : Int), rfl, lp, _, rfl, SqL.of (Sz _ _ hlb), fun g3 hg3 => ?_⟩
        have Su := same_new (o := .lst (cutV ((l0 :: ls).map fun l => V.str (lvS l)) (some (t : Int)) none)) hg3
        have hg3' : (L2.upd He g3 (.lst (cutV ((l0 :: ls).map fun l => V.str (lvS l)) (some (t : Int)) none))) g3 = some (.lst (((l0 :: ls).drop t).map fun l => V.str (lvS l))) := by
          rw [upd_same, cut_dr _ _ (by omega), List.map_drop]
        generalize (L2.upd He g3 (.lst (cutV ((l0 :: ls).map fun l => V.str (lvS l)) (some (t : Int)) none))) = Hg at Su hg3' ⊢
        refine ⟨_, rfl, _, rfl, (t : Int), rfl, lp, _, rfl, SqL.of (Su _ _ (Sz _ _ hlb)), fun g6 hg6 => ?_⟩
        have Sv := same_new (o := .lst (cutV ((l0 :: ls).map fun l => V.str (lvS l)) none (some (t : Int)))) hg6
        have hg6' : (L2.upd Hg g6 (.lst (cutV ((l0 :: ls).map fun l => V.str (lvS l)) none (some (t : Int))))) g6 = some (.lst (((l0 :: ls).take t).map fun l => V.str (lvS l))) := by
          rw [upd_same, cut_to, List.map_take]
        generalize (L2.upd Hg g6 (.lst (cutV ((l0 :: ls).map fun l => V.str (lvS l)) none (some (t : Int))))) = Hh at Sv hg6' ⊢
        refine ⟨g3, g6, _, _, rfl, rfl, Sv _ _ hg3', hg6', szs _ (by simp only [List.length_map, List.length_drop, List.length_take, List.length_cons]; omega), fun g7 hg7 => ?_⟩
        have Sw := ((Sz.trans Su).trans Sv).trans (same_new (o := .lst ((((l0 :: ls).drop t).map fun l => V.str (lvS l)) ++ (((l0 :: ls).take t).map fun l => V.str (lvS l)))) hg7)
        have hq8 := (same_new (o := .lst ((((l0 :: ls).drop t).map fun l => V.str (lvS l)) ++ (((l0 :: ls).take t).map fun l => V.str (lvS l)))) hg7) _ _ (Sv _ _ (Su _ _ hq7'))
        have hg7' : (L2.upd Hh g7 (.lst ((((l0 :: ls).drop t).map fun l => V.str (lvS l)) ++ (((l0 :: ls).take t).map fun l => V.str (lvS l))))) g7 = some (.lst ((rot (l0 :: ls) t).map fun l => V.str (lvS l))) := by
          rw [upd_same]; unfold rot; rw [List.map_append]
        generalize (L2.upd Hh g7 (.lst ((((l0 :: ls).drop t).map fun l => V.str (lvS l)) ++ (((l0 :: ls).take t).map fun l => V.str (lvS l))))) = Hi at Sw hq8 hg7' ⊢
        -- the cut
        have hDi := Sw _ _ hDb
        have nrng : (List.range (n + 1)).map (num (n + 1) t) = cOf n t :: rsOf n t := by rw [List.range_succ_eq_map, List.map_cons, List.map_map]; rfl
        rw [nrng] at hDi
        have hMi := hMb.mono Sw
        refine ⟨_, rfl, D, _, _, _, rfl, rfl, SqL.of hDi, atI_nat (j := 0) rfl, _, rfl, ⟨pM, rfl, tDb.mono (TupS.of Sw)⟩, Nat.le_of_ble_eq_true rfl, fun t8 ht8 => ?_⟩
        have S8t := same_new (o := .tup [.str "read", .int 0]) ht8
        refine ⟨M, .ref t8, (false, 0), rfl, hMi.mono S8t, ⟨t8, rfl, SqT.of upd_same⟩, perm.mem_iff.mpr (by simp), fun cut hcut => ?_⟩
        refine ⟨_, rfl, 1, rfl, D, _, rfl, SqL.of (S8t _ _ hDi), fun e9 he9 => ?_⟩
        have S9e := same_new (o := .lst (cutV ((cOf n t :: rsOf n t).map V.int) (some 1) none)) he9
        have e1 : cutV ((cOf n t :: rsOf n t).map V.int) (some 1) none = (rsOf n t).map V.int := by
          have := cut_from ((cOf n t :: rsOf n t).map V.int) 0
          simpa using this
        have he9' : (L2.upd (L2.upd Hi t8 (.tup [.str "read", .int 0])) e9 (.lst (cutV ((cOf n t :: rsOf n t).map V.int) (some 1) none))) e9 = some (.lst ((rsOf n t).map V.int)) := by rw [upd_same, e1]
        have Sj := (Sw.trans S8t).trans S9e
        have hq9 := S9e _ _ (S8t _ _ hq8)
        have hg9 := S9e _ _ (S8t _ _ hg7')
        generalize (L2.upd (L2.upd Hi t8 (.tup [.str "read", .int 0])) e9 (.lst (cutV ((cOf n t :: rsOf n t).map V.int) (some 1) none))) = Hj at he9' Sj hq9 hg9 ⊢
        refine fun x dx hx hdx hne => ?_
        have hx1 : (L2.upd Hj dx (.own x)) x = none := by rw [upd_ne (Ne.symm hne)]; exact hx
        have Sk : Same Hj (L2.upd (L2.upd Hj dx (.own x)) x (.ins cC dx [])) := (same_new hdx).trans (same_new hx1)
        refine ⟨x, dx, e9, cOf n t, (cut : Int), rsOf n t, rfl, upd_same, SqL.of (Sk _ _ he9'), fun l Hl _ hcutA hsq keep => ⟨rfl, ?_⟩⟩
        have Sl : Same Hj Hl := fun a o ha => keep a o (Sk a o ha) (fun z => by rw [z, hx] at ha; cases ha)
        have O : Made M rD l0 ls t cut := ⟨perm, hcut, by omega, by omega, by rw [lrD]; exact rowok, by omega, by omega⟩
        have hnn : n = rD.length := lrD.symm
        have Sbl := Sj.trans Sl
        have pdl : Paired (DealAt K Hl) (List.drop t (.ref pM :: uv) ++ List.take t (.ref pM :: uv)) (dsOf M rD t) := by
          have p0 : Paired (DealAt K Hl) (.ref pM :: uv) (M :: rD) := .cons (hMb.mono Sbl) (Paired.mapP pub fun _ _ => DealAt.mono Sbl)
          exact paired_append (paired_drop t p0) (paired_take t p0)
        subst hnn
        refine ⟨_, rfl, _, rfl, _, rfl, _, rfl, .ref q7, .ref g7, x, l, M, rD, l0, ls, t, cut, rfl, O, ⟨q7, _, rfl, SqL.of (Sl _ _ hq9), pdl⟩, ⟨g7, rfl, SqL.of (Sl _ _ hg9)⟩, hcutA, hsq, fun Hf Sf => ⟨true, rfl, iteF ?_⟩⟩
        have frf := frb.trans (Fr.of (Sbl.trans Sf))
        refine ⟨_, _, _, _, _, _, _, _, _, _, _, _, rfl, fun a o ha => frf a o (S2 a o ha) (fun z => by rw [z, hs0] at ha; cases ha)⟩
    · rintro σ H1 ⟨o1, o2, o3, o4, o5, o6, o7, o8, o9, o10, o11, o12, rfl, S1⟩
      exact k H1
end
end K60

set_option Elab.async false
set_option linter.all false
set_option maxRecDepth 100000
set_option maxHeartbeats 8000000
/-! K61R: all of them together. -/
namespace K60
open PySem L2 PySem.Spec
theorem law_binds {K : PySem.W.Frag} {f : Addr} {fd : FuncData} (F : Fun K "law" "law" s_law f fd) (s : Shared) (v : Value) : BindsTo s fd ⟨[v], []⟩ [("_law_script", v)] := by
  obtain ⟨oc, od, kV, doc, pm, an, cdv, ct, osl, rfl, lk, hcd⟩ := F.ex
  exact .of_eq rfl
theorem all_mk {l : PySem.W.OpenLaw} {w : World} {K : PySem.W.Frag} {h : Heap} {mg : Str → Option Value} {fa cC cE cR f_is_from f_is_box f_is_step f_in_order f_is_dealing f_are_dealings f_are_levels f_is_level f_sure_dealings f_sure_levels f_is_number f_boxes_of f_meeting f_is_cut f_kept_apart f_writes_any f_reads_any f_closes f_is_barred f_cut_fault f_cut_weaving f_gone_through f_ties_of_box f_ties_of f_tie_by_pair f_ring_by f_shortest_ring f_turns_of f_weaving_fault f_look_at f_barred f_law_cell_at f_law_digit f_law_turned f_law_other f_law_due f_law_levels f_law_right f_law f_Cut_init f_Engine_init f_Engine_enter f_Engine_start_of f_Engine_stop_of f_Engine_newest f_Engine_bar_of_write f_Engine_rank f_Engine_goes_past f_Engine_overlap f_Engine_is_middle f_Engine_bar_of_end f_Engine_bar_of f_Engine_do f_Run_init f_Run_ties f_Run_ring w_WORDS w_LEVELS : Addr} {d_is_from d_is_box d_is_step d_in_order d_is_dealing d_are_dealings d_are_levels d_is_level d_sure_dealings d_sure_levels d_is_number d_boxes_of d_meeting d_is_cut d_kept_apart d_writes_any d_reads_any d_closes d_is_barred d_cut_fault d_cut_weaving d_gone_through d_ties_of_box d_ties_of d_tie_by_pair d_ring_by d_shortest_ring d_turns_of d_weaving_fault d_look_at d_barred d_law_cell_at d_law_digit d_law_turned d_law_other d_law_due d_law_levels d_law_right d_law d_Cut_init d_Engine_init d_Engine_enter d_Engine_start_of d_Engine_stop_of d_Engine_newest d_Engine_bar_of_write d_Engine_rank d_Engine_goes_past d_Engine_overlap d_Engine_is_middle d_Engine_bar_of_end d_Engine_bar_of d_Engine_do d_Run_init d_Run_ties d_Run_ring : FuncData} {t_MOST_BOX t_MOST_STEPS t_MOST_DEALINGS t_NOBODY t_WORDS0 t_WORDS1 t_LEVELS0 t_LEVELS1 t_LEVELS2 : Tok} {dd_WORDS dd_LEVELS : Option Addr} {n_WORDS n_LEVELS : Nat} {sl_WORDS sl_LEVELS : Array (Option Value)} (X : K.In h) (G : h.Ns mainGlobals mg) (hfa : mg "law" = some (.ref fa))
    (F_is_from : Fun K "is_from" "is_from" s_is_from f_is_from d_is_from)
    (a_is_from : PySem.W.nsIn K mainGlobals "is_from" = some (some (.ref f_is_from)))
    (F_is_box : Fun K "is_box" "is_box" s_is_box f_is_box d_is_box)
    (a_is_box : PySem.W.nsIn K mainGlobals "is_box" = some (some (.ref f_is_box)))
    (F_is_step : Fun K "is_step" "is_step" s_is_step f_is_step d_is_step)
    (a_is_step : PySem.W.nsIn K mainGlobals "is_step" = some (some (.ref f_is_step)))
    (F_in_order : Fun K "in_order" "in_order" s_in_order f_in_order d_in_order)
    (a_in_order : PySem.W.nsIn K mainGlobals "in_order" = some (some (.ref f_in_order)))
    (F_is_dealing : Fun K "is_dealing" "is_dealing" s_is_dealing f_is_dealing d_is_dealing)
    (a_is_dealing : PySem.W.nsIn K mainGlobals "is_dealing" = some (some (.ref f_is_dealing)))
    (F_are_dealings : Fun K "are_dealings" "are_dealings" s_are_dealings f_are_dealings d_are_dealings)
    (a_are_dealings : PySem.W.nsIn K mainGlobals "are_dealings" = some (some (.ref f_are_dealings)))
    (F_are_levels : Fun K "are_levels" "are_levels" s_are_levels f_are_levels d_are_levels)
    (a_are_levels : PySem.W.nsIn K mainGlobals "are_levels" = some (some (.ref f_are_levels)))
    (F_is_level : Fun K "is_level" "is_level" s_is_level f_is_level d_is_level)
    (a_is_level : PySem.W.nsIn K mainGlobals "is_level" = some (some (.ref f_is_level)))
    (F_sure_dealings : Fun K "sure_dealings" "sure_dealings" s_sure_dealings f_sure_dealings d_sure_dealings)
    (a_sure_dealings : PySem.W.nsIn K mainGlobals "sure_dealings" = some (some (.ref f_sure_dealings)))
    (F_sure_levels : Fun K "sure_levels" "sure_levels" s_sure_levels f_sure_levels d_sure_levels)
    (a_sure_levels : PySem.W.nsIn K mainGlobals "sure_levels" = some (some (.ref f_sure_levels)))
    (F_is_number : Fun K "is_number" "is_number" s_is_number f_is_number d_is_number)
    (a_is_number : PySem.W.nsIn K mainGlobals "is_number_dealings" = some (some (.ref f_is_number)))
    (F_boxes_of : Fun K "boxes_of" "boxes_of" s_boxes_of f_boxes_of d_boxes_of)
    (a_boxes_of : PySem.W.nsIn K mainGlobals "boxes_of" = some (some (.ref f_boxes_of)))
    (F_meeting : Fun K "meeting" "meeting" s_meeting f_meeting d_meeting)
    (a_meeting : PySem.W.nsIn K mainGlobals "meeting" = some (some (.ref f_meeting)))
    (F_is_cut : Fun K "is_cut" "is_cut" s_is_cut f_is_cut d_is_cut)
    (a_is_cut : PySem.W.nsIn K mainGlobals "is_cut" = some (some (.ref f_is_cut)))
    (F_kept_apart : Fun K "kept_apart" "kept_apart" s_kept_apart f_kept_apart d_kept_apart)
    (a_kept_apart : PySem.W.nsIn K mainGlobals "kept_apart" = some (some (.ref f_kept_apart)))
    (F_writes_any : Fun K "writes_any" "writes_any" s_writes_any f_writes_any d_writes_any)
    (a_writes_any : PySem.W.nsIn K mainGlobals "writes_any" = some (some (.ref f_writes_any)))
    (F_reads_any : Fun K "reads_any" "reads_any" s_reads_any f_reads_any d_reads_any)
    (a_reads_any : PySem.W.nsIn K mainGlobals "reads_any" = some (some (.ref f_reads_any)))
    (F_closes : Fun K "closes" "closes" s_closes f_closes d_closes)
    (a_closes : PySem.W.nsIn K mainGlobals "closes" = some (some (.ref f_closes)))
    (F_is_barred : Fun K "is_barred" "is_barred" s_is_barred f_is_barred d_is_barred)
    (a_is_barred : PySem.W.nsIn K mainGlobals "is_barred" = some (some (.ref f_is_barred)))
    (F_cut_fault : Fun K "cut_fault" "cut_fault" s_cut_fault f_cut_fault d_cut_fault)
    (a_cut_fault : PySem.W.nsIn K mainGlobals "cut_fault" = some (some (.ref f_cut_fault)))
    (F_cut_weaving : Fun K "cut_weaving" "cut_weaving" s_cut_weaving f_cut_weaving d_cut_weaving)
    (a_cut_weaving : PySem.W.nsIn K mainGlobals "cut_weaving" = some (some (.ref f_cut_weaving)))
    (F_gone_through : Fun K "gone_through" "gone_through" s_gone_through f_gone_through d_gone_through)
    (a_gone_through : PySem.W.nsIn K mainGlobals "gone_through" = some (some (.ref f_gone_through)))
    (F_ties_of_box : Fun K "ties_of_box" "ties_of_box" s_ties_of_box f_ties_of_box d_ties_of_box)
    (a_ties_of_box : PySem.W.nsIn K mainGlobals "ties_of_box" = some (some (.ref f_ties_of_box)))
    (F_ties_of : Fun K "ties_of" "ties_of" s_ties_of f_ties_of d_ties_of)
    (a_ties_of : PySem.W.nsIn K mainGlobals "ties_of" = some (some (.ref f_ties_of)))
    (F_tie_by_pair : Fun K "tie_by_pair" "tie_by_pair" s_tie_by_pair f_tie_by_pair d_tie_by_pair)
    (a_tie_by_pair : PySem.W.nsIn K mainGlobals "tie_by_pair" = some (some (.ref f_tie_by_pair)))
    (F_ring_by : Fun K "ring_by" "ring_by" s_ring_by f_ring_by d_ring_by)
    (a_ring_by : PySem.W.nsIn K mainGlobals "ring_by" = some (some (.ref f_ring_by)))
    (F_shortest_ring : Fun K "shortest_ring" "shortest_ring" s_shortest_ring f_shortest_ring d_shortest_ring)
    (a_shortest_ring : PySem.W.nsIn K mainGlobals "shortest_ring" = some (some (.ref f_shortest_ring)))
    (F_turns_of : Fun K "turns_of" "turns_of" s_turns_of f_turns_of d_turns_of)
    (a_turns_of : PySem.W.nsIn K mainGlobals "turns_of" = some (some (.ref f_turns_of)))
    (F_weaving_fault : Fun K "weaving_fault" "weaving_fault" s_weaving_fault f_weaving_fault d_weaving_fault)
    (a_weaving_fault : PySem.W.nsIn K mainGlobals "weaving_fault" = some (some (.ref f_weaving_fault)))
    (F_look_at : Fun K "look_at" "look_at" s_look_at f_look_at d_look_at)
    (a_look_at : PySem.W.nsIn K mainGlobals "look_at" = some (some (.ref f_look_at)))
    (F_barred : Fun K "barred" "barred" s_barred f_barred d_barred)
    (a_barred : PySem.W.nsIn K mainGlobals "barred" = some (some (.ref f_barred)))
    (F_law_cell_at : Fun K "_law_cell_at" "_law_cell_at" s_law_cell_at f_law_cell_at d_law_cell_at)
    (a_law_cell_at : PySem.W.nsIn K mainGlobals "_law_cell_at" = some (some (.ref f_law_cell_at)))
    (F_law_digit : Fun K "_law_digit" "_law_digit" s_law_digit f_law_digit d_law_digit)
    (a_law_digit : PySem.W.nsIn K mainGlobals "_law_digit" = some (some (.ref f_law_digit)))
    (F_law_turned : Fun K "_law_turned" "_law_turned" s_law_turned f_law_turned d_law_turned)
    (a_law_turned : PySem.W.nsIn K mainGlobals "_law_turned" = some (some (.ref f_law_turned)))
    (F_law_other : Fun K "_law_other" "_law_other" s_law_other f_law_other d_law_other)
    (a_law_other : PySem.W.nsIn K mainGlobals "_law_other" = some (some (.ref f_law_other)))
    (F_law_due : Fun K "_law_due" "_law_due" s_law_due f_law_due d_law_due)
    (a_law_due : PySem.W.nsIn K mainGlobals "_law_due" = some (some (.ref f_law_due)))
    (F_law_levels : Fun K "_law_levels" "_law_levels" s_law_levels f_law_levels d_law_levels)
    (a_law_levels : PySem.W.nsIn K mainGlobals "_law_levels" = some (some (.ref f_law_levels)))
    (F_law_right : Fun K "_law_right" "_law_right" s_law_right f_law_right d_law_right)
    (a_law_right : PySem.W.nsIn K mainGlobals "_law_right" = some (some (.ref f_law_right)))
    (F_law : Fun K "law" "law" s_law f_law d_law)
    (a_law : PySem.W.nsIn K mainGlobals "law" = some (some (.ref f_law)))
    (F_Cut_init : Fun K "__init__" "Cut.__init__" sCut_init f_Cut_init d_Cut_init)
    (a_Cut_init : PySem.W.findIn K (.ref cC) "__init__" = some (some (.ref f_Cut_init)))
    (i_Cut_init : PySem.W.isFn K (.ref f_Cut_init) = true)
    (F_Engine_init : Fun K "__init__" "Engine.__init__" sEngine_init f_Engine_init d_Engine_init)
    (a_Engine_init : PySem.W.findIn K (.ref cE) "__init__" = some (some (.ref f_Engine_init)))
    (i_Engine_init : PySem.W.isFn K (.ref f_Engine_init) = true)
    (F_Engine_enter : Fun K "enter" "Engine.enter" sEngine_enter f_Engine_enter d_Engine_enter)
    (a_Engine_enter : PySem.W.findIn K (.ref cE) "enter" = some (some (.ref f_Engine_enter)))
    (i_Engine_enter : PySem.W.isFn K (.ref f_Engine_enter) = true)
    (F_Engine_start_of : Fun K "start_of" "Engine.start_of" sEngine_start_of f_Engine_start_of d_Engine_start_of)
    (a_Engine_start_of : PySem.W.findIn K (.ref cE) "start_of" = some (some (.ref f_Engine_start_of)))
    (i_Engine_start_of : PySem.W.isFn K (.ref f_Engine_start_of) = true)
    (F_Engine_stop_of : Fun K "stop_of" "Engine.stop_of" sEngine_stop_of f_Engine_stop_of d_Engine_stop_of)
    (a_Engine_stop_of : PySem.W.findIn K (.ref cE) "stop_of" = some (some (.ref f_Engine_stop_of)))
    (i_Engine_stop_of : PySem.W.isFn K (.ref f_Engine_stop_of) = true)
    (F_Engine_newest : Fun K "newest" "Engine.newest" sEngine_newest f_Engine_newest d_Engine_newest)
    (a_Engine_newest : PySem.W.findIn K (.ref cE) "newest" = some (some (.ref f_Engine_newest)))
    (i_Engine_newest : PySem.W.isFn K (.ref f_Engine_newest) = true)
    (F_Engine_bar_of_write : Fun K "bar_of_write" "Engine.bar_of_write" sEngine_bar_of_write f_Engine_bar_of_write d_Engine_bar_of_write)
    (a_Engine_bar_of_write : PySem.W.findIn K (.ref cE) "bar_of_write" = some (some (.ref f_Engine_bar_of_write)))
    (i_Engine_bar_of_write : PySem.W.isFn K (.ref f_Engine_bar_of_write) = true)
    (F_Engine_rank : Fun K "rank" "Engine.rank" sEngine_rank f_Engine_rank d_Engine_rank)
    (a_Engine_rank : PySem.W.findIn K (.ref cE) "rank" = some (some (.ref f_Engine_rank)))
    (i_Engine_rank : PySem.W.isFn K (.ref f_Engine_rank) = true)
    (F_Engine_goes_past : Fun K "goes_past" "Engine.goes_past" sEngine_goes_past f_Engine_goes_past d_Engine_goes_past)
    (a_Engine_goes_past : PySem.W.findIn K (.ref cE) "goes_past" = some (some (.ref f_Engine_goes_past)))
    (i_Engine_goes_past : PySem.W.isFn K (.ref f_Engine_goes_past) = true)
    (F_Engine_overlap : Fun K "overlap" "Engine.overlap" sEngine_overlap f_Engine_overlap d_Engine_overlap)
    (a_Engine_overlap : PySem.W.findIn K (.ref cE) "overlap" = some (some (.ref f_Engine_overlap)))
    (i_Engine_overlap : PySem.W.isFn K (.ref f_Engine_overlap) = true)
    (F_Engine_is_middle : Fun K "is_middle" "Engine.is_middle" sEngine_is_middle f_Engine_is_middle d_Engine_is_middle)
    (a_Engine_is_middle : PySem.W.findIn K (.ref cE) "is_middle" = some (some (.ref f_Engine_is_middle)))
    (i_Engine_is_middle : PySem.W.isFn K (.ref f_Engine_is_middle) = true)
    (F_Engine_bar_of_end : Fun K "bar_of_end" "Engine.bar_of_end" sEngine_bar_of_end f_Engine_bar_of_end d_Engine_bar_of_end)
    (a_Engine_bar_of_end : PySem.W.findIn K (.ref cE) "bar_of_end" = some (some (.ref f_Engine_bar_of_end)))
    (i_Engine_bar_of_end : PySem.W.isFn K (.ref f_Engine_bar_of_end) = true)
    (F_Engine_bar_of : Fun K "bar_of" "Engine.bar_of" sEngine_bar_of f_Engine_bar_of d_Engine_bar_of)
    (a_Engine_bar_of : PySem.W.findIn K (.ref cE) "bar_of" = some (some (.ref f_Engine_bar_of)))
    (i_Engine_bar_of : PySem.W.isFn K (.ref f_Engine_bar_of) = true)
    (F_Engine_do : Fun K "do" "Engine.do" sEngine_do f_Engine_do d_Engine_do)
    (a_Engine_do : PySem.W.findIn K (.ref cE) "do" = some (some (.ref f_Engine_do)))
    (i_Engine_do : PySem.W.isFn K (.ref f_Engine_do) = true)
    (F_Run_init : Fun K "__init__" "Run.__init__" sRun_init f_Run_init d_Run_init)
    (a_Run_init : PySem.W.findIn K (.ref cR) "__init__" = some (some (.ref f_Run_init)))
    (i_Run_init : PySem.W.isFn K (.ref f_Run_init) = true)
    (F_Run_ties : FunD K "ties" "Run.ties" (defArgs sRun_ties) (defBody sRun_ties) (defScope sRun_ties) [] [("kind", .non)] f_Run_ties d_Run_ties)
    (a_Run_ties : PySem.W.findIn K (.ref cR) "ties" = some (some (.ref f_Run_ties)))
    (i_Run_ties : PySem.W.isFn K (.ref f_Run_ties) = true)
    (F_Run_ring : FunD K "ring" "Run.ring" (defArgs sRun_ring) (defBody sRun_ring) (defScope sRun_ring) [] [("through", .non)] f_Run_ring d_Run_ring)
    (a_Run_ring : PySem.W.findIn K (.ref cR) "ring" = some (some (.ref f_Run_ring)))
    (i_Run_ring : PySem.W.isFn K (.ref f_Run_ring) = true)
    (aC_Cut : PySem.W.nsIn K mainGlobals "Cut" = some (some (.ref cC)))
    (pg_Cut : PySem.W.plainGet K cC Str.empty = true)
    (hd_Cut : PySem.W.hasDictIn K cC = true)
    (po_Cut : PySem.W.plainOver K cC = true)
    (sa_Cut : PySem.W.findIn K (.ref cC) "__setattr__" = some (some (.builtin "object.__setattr__")))
    (mk_Cut : PySem.W.makesIn K cC = true)
    (kc_Cut : PySem.W.keepIn K (.ref cC) = true)
    (na_Cut_one : PySem.W.findIn K (.ref cC) "one" = some none)
    (na_Cut_at : PySem.W.findIn K (.ref cC) "at" = some none)
    (na_Cut_row : PySem.W.findIn K (.ref cC) "row" = some none)
    (aC_Engine : PySem.W.nsIn K mainGlobals "Engine" = some (some (.ref cE)))
    (pg_Engine : PySem.W.plainGet K cE Str.empty = true)
    (hd_Engine : PySem.W.hasDictIn K cE = true)
    (po_Engine : PySem.W.plainOver K cE = true)
    (sa_Engine : PySem.W.findIn K (.ref cE) "__setattr__" = some (some (.builtin "object.__setattr__")))
    (mk_Engine : PySem.W.makesIn K cE = true)
    (kc_Engine : PySem.W.keepIn K (.ref cE) = true)
    (na_Engine_moment : PySem.W.findIn K (.ref cE) "moment" = some none)
    (na_Engine_grades : PySem.W.findIn K (.ref cE) "grades" = some none)
    (na_Engine_starts : PySem.W.findIn K (.ref cE) "starts" = some none)
    (na_Engine_stops : PySem.W.findIn K (.ref cE) "stops" = some none)
    (na_Engine_chains : PySem.W.findIn K (.ref cE) "chains" = some none)
    (na_Engine_holders : PySem.W.findIn K (.ref cE) "holders" = some none)
    (na_Engine_sights : PySem.W.findIn K (.ref cE) "sights" = some none)
    (na_Engine_puts : PySem.W.findIn K (.ref cE) "puts" = some none)
    (na_Engine_looks : PySem.W.findIn K (.ref cE) "looks" = some none)
    (aC_Run : PySem.W.nsIn K mainGlobals "Run" = some (some (.ref cR)))
    (pg_Run : PySem.W.plainGet K cR Str.empty = true)
    (hd_Run : PySem.W.hasDictIn K cR = true)
    (po_Run : PySem.W.plainOver K cR = true)
    (sa_Run : PySem.W.findIn K (.ref cR) "__setattr__" = some (some (.builtin "object.__setattr__")))
    (mk_Run : PySem.W.makesIn K cR = true)
    (kc_Run : PySem.W.keepIn K (.ref cR) = true)
    (na_Run_dealings : PySem.W.findIn K (.ref cR) "dealings" = some none)
    (na_Run_levels : PySem.W.findIn K (.ref cR) "levels" = some none)
    (na_Run_weaving : PySem.W.findIn K (.ref cR) "weaving" = some none)
    (na_Run_engine : PySem.W.findIn K (.ref cR) "engine" = some none)
    (insA : PySem.W.findIn K (.ref cC) "__class__" = some (some (.builtin "object.__class__")))
    (insB : PySem.W.specialIn K (.builtin "object.__class__") "__get__" = some (some (.builtin "getset_descriptor.__get__")))
    (insC : PySem.W.takesIn K (.builtin "object.__class__") = some true)
    (insD : PySem.W.mroIn K cC (.type "object") = some true)
    (z_isinstance : PySem.W.nsIn K mainGlobals "isinstance" = some none)
    (z_int : PySem.W.nsIn K mainGlobals "int" = some none)
    (z_bool : PySem.W.nsIn K mainGlobals "bool" = some none)
    (z_tuple : PySem.W.nsIn K mainGlobals "tuple" = some none)
    (z_list : PySem.W.nsIn K mainGlobals "list" = some none)
    (z_str : PySem.W.nsIn K mainGlobals "str" = some none)
    (z_len : PySem.W.nsIn K mainGlobals "len" = some none)
    (z_all : PySem.W.nsIn K mainGlobals "all" = some none)
    (z_any : PySem.W.nsIn K mainGlobals "any" = some none)
    (z_enumerate : PySem.W.nsIn K mainGlobals "enumerate" = some none)
    (z_sorted : PySem.W.nsIn K mainGlobals "sorted" = some none)
    (z_set : PySem.W.nsIn K mainGlobals "set" = some none)
    (z_zip : PySem.W.nsIn K mainGlobals "zip" = some none)
    (z_range : PySem.W.nsIn K mainGlobals "range" = some none)
    (z_sum : PySem.W.nsIn K mainGlobals "sum" = some none)
    (z_max : PySem.W.nsIn K mainGlobals "max" = some none)
    (z_min : PySem.W.nsIn K mainGlobals "min" = some none)
    (kt_MOST_BOX : PySem.W.nsIn K mainGlobals "MOST_BOX" = some (some (.int 100000000 t_MOST_BOX)))
    (kt_MOST_STEPS : PySem.W.nsIn K mainGlobals "MOST_STEPS" = some (some (.int 8 t_MOST_STEPS)))
    (kt_MOST_DEALINGS : PySem.W.nsIn K mainGlobals "MOST_DEALINGS" = some (some (.int 100 t_MOST_DEALINGS)))
    (kt_NOBODY : PySem.W.nsIn K mainGlobals "NOBODY" = some (some (.int (-1) t_NOBODY)))
    (kw_WORDS : PySem.W.nsIn K mainGlobals "WORDS" = some (some (.ref w_WORDS)))
    (kl_WORDS : K.lookup w_WORDS = some ⟨.type "tuple", dd_WORDS, .seq #[.str "read" t_WORDS0, .str "write" t_WORDS1] n_WORDS, sl_WORDS⟩)
    (kw_LEVELS : PySem.W.nsIn K mainGlobals "LEVELS" = some (some (.ref w_LEVELS)))
    (kl_LEVELS : K.lookup w_LEVELS = some ⟨.type "tuple", dd_LEVELS, .seq #[.str "lax" t_LEVELS0, .str "still" t_LEVELS1, .str "whole" t_LEVELS2] n_LEVELS, sl_LEVELS⟩) :
    ∃ fd : FuncData, (∀ (s : Shared) (v : Value), BindsTo s fd ⟨[v], []⟩ [("_law_script", v)]) ∧ ∀ base : Heap, K.In base → base.Ns mainGlobals mg → FnOk l.prog w K mg base CX0 12 fa fd ["_law_script"] (spLaw K) := by
  have efa : fa = f_law := by
    have := PySem.W.mg_of X G a_law
    rw [hfa] at this
    cases this; rfl
  subst efa
  have T : Facts K mg cC cE cR := {
    clCut := ⟨pg_Cut, hd_Cut, po_Cut, sa_Cut⟩
    mgCut := PySem.W.mg_of X G aC_Cut
    nCut_one := na_Cut_one
    nCut_at := na_Cut_at
    nCut_row := na_Cut_row
    clEngine := ⟨pg_Engine, hd_Engine, po_Engine, sa_Engine⟩
    mgEngine := PySem.W.mg_of X G aC_Engine
    nEngine_moment := na_Engine_moment
    nEngine_grades := na_Engine_grades
    nEngine_starts := na_Engine_starts
    nEngine_stops := na_Engine_stops
    nEngine_chains := na_Engine_chains
    nEngine_holders := na_Engine_holders
    nEngine_sights := na_Engine_sights
    nEngine_puts := na_Engine_puts
    nEngine_looks := na_Engine_looks
    clRun := ⟨pg_Run, hd_Run, po_Run, sa_Run⟩
    mgRun := PySem.W.mg_of X G aC_Run
    nRun_dealings := na_Run_dealings
    nRun_levels := na_Run_levels
    nRun_weaving := na_Run_weaving
    nRun_engine := na_Run_engine
    insA := insA
    insB := insB
    insC := insC
    insD := insD
    insE := kit_self K cC
    z_isinstance := PySem.W.mg_none_of X G z_isinstance
    z_int := PySem.W.mg_none_of X G z_int
    z_bool := PySem.W.mg_none_of X G z_bool
    z_tuple := PySem.W.mg_none_of X G z_tuple
    z_list := PySem.W.mg_none_of X G z_list
    z_str := PySem.W.mg_none_of X G z_str
    z_len := PySem.W.mg_none_of X G z_len
    z_all := PySem.W.mg_none_of X G z_all
    z_any := PySem.W.mg_none_of X G z_any
    z_enumerate := PySem.W.mg_none_of X G z_enumerate
    z_sorted := PySem.W.mg_none_of X G z_sorted
    z_set := PySem.W.mg_none_of X G z_set
    z_zip := PySem.W.mg_none_of X G z_zip
    z_range := PySem.W.mg_none_of X G z_range
    z_sum := PySem.W.mg_none_of X G z_sum
    z_max := PySem.W.mg_none_of X G z_max
    z_min := PySem.W.mg_none_of X G z_min
    k_MOST_BOX := ⟨_, PySem.W.mg_of X G kt_MOST_BOX, ⟨_, rfl⟩⟩
    k_MOST_STEPS := ⟨_, PySem.W.mg_of X G kt_MOST_STEPS, ⟨_, rfl⟩⟩
    k_MOST_DEALINGS := ⟨_, PySem.W.mg_of X G kt_MOST_DEALINGS, ⟨_, rfl⟩⟩
    k_NOBODY := ⟨_, PySem.W.mg_of X G kt_NOBODY, ⟨_, rfl⟩⟩
    k_WORDS := ⟨w_WORDS, PySem.W.mg_of X G kw_WORDS, fun _ => .inr ⟨_, _, _, kl_WORDS, rfl, rfl, Nat.le_of_ble_eq_true rfl, .cons ⟨_, rfl⟩ (.cons ⟨_, rfl⟩ .nil)⟩⟩
    k_LEVELS := ⟨w_LEVELS, PySem.W.mg_of X G kw_LEVELS, fun _ => .inr ⟨_, _, _, kl_LEVELS, rfl, rfl, Nat.le_of_ble_eq_true rfl, .cons ⟨_, rfl⟩ (.cons ⟨_, rfl⟩ (.cons ⟨_, rfl⟩ .nil))⟩⟩ }
  refine ⟨d_law, fun s v => law_binds F_law s v, fun base _ _ => ?_⟩
  have h_is_from : FnOk l.prog w K mg base CX0 1 f_is_from d_is_from ["thing", "low", "high"] spFrom := ok_is_from F_is_from T
  have c_is_from : C8.Cal l.prog w K mg base 1 "is_from" spFrom [] := ⟨f_is_from, d_is_from, _, [], h_is_from, PySem.W.mg_of X G a_is_from, F_is_from.kp, (F_is_from.binds (fun _ _ _ _ _ _ us hl => match us, hl with | [_, _, _], _ => rfl)), .nil⟩
  have h_is_box : FnOk l.prog w K mg base CX0 2 f_is_box d_is_box ["thing"] spBox := ok_is_box F_is_box T c_is_from
  have c_is_box : C8.Cal l.prog w K mg base 2 "is_box" spBox [] := ⟨f_is_box, d_is_box, _, [], h_is_box, PySem.W.mg_of X G a_is_box, F_is_box.kp, (F_is_box.binds (fun _ _ _ _ _ _ us hl => match us, hl with | [_], _ => rfl)), .nil⟩
  have h_is_step : FnOk l.prog w K mg base CX0 3 f_is_step d_is_step ["thing"] (spStep K) := ok_is_step F_is_step T c_is_box
  have c_is_step : C8.Cal l.prog w K mg base 3 "is_step" (spStep K) [] := ⟨f_is_step, d_is_step, _, [], h_is_step, PySem.W.mg_of X G a_is_step, F_is_step.kp, (F_is_step.binds (fun _ _ _ _ _ _ us hl => match us, hl with | [_], _ => rfl)), .nil⟩
  have h_is_level : FnOk l.prog w K mg base CX0 1 f_is_level d_is_level ["thing"] spLevel := ok_is_level F_is_level T
  have c_is_level : C8.Cal l.prog w K mg base 1 "is_level" spLevel [] := ⟨f_is_level, d_is_level, _, [], h_is_level, PySem.W.mg_of X G a_is_level, F_is_level.kp, (F_is_level.binds (fun _ _ _ _ _ _ us hl => match us, hl with | [_], _ => rfl)), .nil⟩
  have h_is_number : FnOk l.prog w K mg base CX0 2 f_is_number d_is_number ["dealings", "thing"] (spNumber K) := ok_is_number F_is_number T c_is_from
  have c_is_number_dealings : C8.Cal l.prog w K mg base 2 "is_number_dealings" (spNumber K) [] := ⟨f_is_number, d_is_number, _, [], h_is_number, PySem.W.mg_of X G a_is_number, F_is_number.kp, (F_is_number.binds (fun _ _ _ _ _ _ us hl => match us, hl with | [_, _], _ => rfl)), .nil⟩
  have h_in_order : FnOk l.prog w K mg base CX0 1 f_in_order d_in_order ["steps"] (spOrder K) := ok_in_order F_in_order T
  have c_in_order : C8.Cal l.prog w K mg base 1 "in_order" (spOrder K) [] := ⟨f_in_order, d_in_order, _, [], h_in_order, PySem.W.mg_of X G a_in_order, F_in_order.kp, (F_in_order.binds (fun _ _ _ _ _ _ us hl => match us, hl with | [_], _ => rfl)), .nil⟩
  have h_is_dealing : FnOk l.prog w K mg base CX0 4 f_is_dealing d_is_dealing ["thing"] (spDealing K) := ok_is_dealing F_is_dealing T c_is_step c_in_order
  have c_is_dealing : C8.Cal l.prog w K mg base 4 "is_dealing" (spDealing K) [] := ⟨f_is_dealing, d_is_dealing, _, [], h_is_dealing, PySem.W.mg_of X G a_is_dealing, F_is_dealing.kp, (F_is_dealing.binds (fun _ _ _ _ _ _ us hl => match us, hl with | [_], _ => rfl)), .nil⟩
  have h_are_dealings : FnOk l.prog w K mg base CX0 5 f_are_dealings d_are_dealings ["thing"] (spDealings K) := ok_are_dealings F_are_dealings T c_is_dealing
  have c_are_dealings : C8.Cal l.prog w K mg base 5 "are_dealings" (spDealings K) [] := ⟨f_are_dealings, d_are_dealings, _, [], h_are_dealings, PySem.W.mg_of X G a_are_dealings, F_are_dealings.kp, (F_are_dealings.binds (fun _ _ _ _ _ _ us hl => match us, hl with | [_], _ => rfl)), .nil⟩
  have h_are_levels : FnOk l.prog w K mg base CX0 2 f_are_levels d_are_levels ["thing", "many"] (spLevels K) := ok_are_levels F_are_levels T c_is_level
  have c_are_levels : C8.Cal l.prog w K mg base 2 "are_levels" (spLevels K) [] := ⟨f_are_levels, d_are_levels, _, [], h_are_levels, PySem.W.mg_of X G a_are_levels, F_are_levels.kp, (F_are_levels.binds (fun _ _ _ _ _ _ us hl => match us, hl with | [_, _], _ => rfl)), .nil⟩
  have h_sure_dealings : FnOk l.prog w K mg base CX0 6 f_sure_dealings d_sure_dealings ["thing"] (spSureD K) := ok_sure_dealings F_sure_dealings c_are_dealings
  have c_sure_dealings : C8.Cal l.prog w K mg base 6 "sure_dealings" (spSureD K) [] := ⟨f_sure_dealings, d_sure_dealings, _, [], h_sure_dealings, PySem.W.mg_of X G a_sure_dealings, F_sure_dealings.kp, (F_sure_dealings.binds (fun _ _ _ _ _ _ us hl => match us, hl with | [_], _ => rfl)), .nil⟩
  have h_sure_levels : FnOk l.prog w K mg base CX0 7 f_sure_levels d_sure_levels ["dealings", "levels"] (spSureL K) := ok_sure_levels F_sure_levels T c_sure_dealings c_are_levels
  have c_sure_levels : C8.Cal l.prog w K mg base 7 "sure_levels" (spSureL K) [] := ⟨f_sure_levels, d_sure_levels, _, [], h_sure_levels, PySem.W.mg_of X G a_sure_levels, F_sure_levels.kp, (F_sure_levels.binds (fun _ _ _ _ _ _ us hl => match us, hl with | [_, _], _ => rfl)), .nil⟩
  have h_boxes_of : FnOk l.prog w K mg base CX0 1 f_boxes_of d_boxes_of ["steps", "word"] (spBoxes K) := ok_boxes_of F_boxes_of T
  have c_boxes_of : C8.Cal l.prog w K mg base 1 "boxes_of" (spBoxes K) [] := ⟨f_boxes_of, d_boxes_of, _, [], h_boxes_of, PySem.W.mg_of X G a_boxes_of, F_boxes_of.kp, (F_boxes_of.binds (fun _ _ _ _ _ _ us hl => match us, hl with | [_, _], _ => rfl)), .nil⟩
  have h_kept_apart : FnOk l.prog w K mg base CX0 2 f_kept_apart d_kept_apart ["one", "at", "level"] (spKept K) := ok_kept_apart F_kept_apart T c_boxes_of
  have c_kept_apart : C8.Cal l.prog w K mg base 2 "kept_apart" (spKept K) [] := ⟨f_kept_apart, d_kept_apart, _, [], h_kept_apart, PySem.W.mg_of X G a_kept_apart, F_kept_apart.kp, (F_kept_apart.binds (fun _ _ _ _ _ _ us hl => match us, hl with | [_, _, _], _ => rfl)), .nil⟩
  have h_writes_any : FnOk l.prog w K mg base CX0 1 f_writes_any d_writes_any ["dealing", "boxes"] (spAny true K) := ok_writes_any F_writes_any T
  have c_writes_any : C8.Cal l.prog w K mg base 1 "writes_any" (spAny true K) [] := ⟨f_writes_any, d_writes_any, _, [], h_writes_any, PySem.W.mg_of X G a_writes_any, F_writes_any.kp, (F_writes_any.binds (fun _ _ _ _ _ _ us hl => match us, hl with | [_, _], _ => rfl)), .nil⟩
  have h_reads_any : FnOk l.prog w K mg base CX0 1 f_reads_any d_reads_any ["dealing", "boxes"] (spAny false K) := ok_reads_any F_reads_any T
  have c_reads_any : C8.Cal l.prog w K mg base 1 "reads_any" (spAny false K) [] := ⟨f_reads_any, d_reads_any, _, [], h_reads_any, PySem.W.mg_of X G a_reads_any, F_reads_any.kp, (F_reads_any.binds (fun _ _ _ _ _ _ us hl => match us, hl with | [_, _], _ => rfl)), .nil⟩
  have h_closes : FnOk l.prog w K mg base CX0 2 f_closes d_closes ["one", "at", "level", "other"] (spCloses K) := ok_closes F_closes c_boxes_of c_reads_any
  have c_closes : C8.Cal l.prog w K mg base 2 "closes" (spCloses K) [] := ⟨f_closes, d_closes, _, [], h_closes, PySem.W.mg_of X G a_closes, F_closes.kp, (F_closes.binds (fun _ _ _ _ _ _ us hl => match us, hl with | [_, _, _, _], _ => rfl)), .nil⟩
  have h_meeting : FnOk l.prog w K mg base CX0 1 f_meeting d_meeting ["one", "other"] (spMeeting K) := ok_meeting F_meeting T
  have c_meeting : C8.Cal l.prog w K mg base 1 "meeting" (spMeeting K) [] := ⟨f_meeting, d_meeting, _, [], h_meeting, PySem.W.mg_of X G a_meeting, F_meeting.kp, (F_meeting.binds (fun _ _ _ _ _ _ us hl => match us, hl with | [_, _], _ => rfl)), .nil⟩
  have h_is_barred : FnOk l.prog w K mg base CX0 2 f_is_barred d_is_barred ["one", "level", "row"] (spIsBarred K) := ok_is_barred F_is_barred T c_boxes_of c_writes_any c_reads_any
  have c_is_barred : C8.Cal l.prog w K mg base 2 "is_barred" (spIsBarred K) [] := ⟨f_is_barred, d_is_barred, _, [], h_is_barred, PySem.W.mg_of X G a_is_barred, F_is_barred.kp, (F_is_barred.binds (fun _ _ _ _ _ _ us hl => match us, hl with | [_, _, _], _ => rfl)), .nil⟩
  have h_Cut_init : FnOk l.prog w K mg base CX0 1 f_Cut_init d_Cut_init ["self", "one", "at", "row"] (spCutInit K cC) := ok_Cut_init F_Cut_init T
  have k_Cut : C8.Mak l.prog w K mg base 1 "Cut" cC (spCutInit K cC) [] := ⟨f_Cut_init, d_Cut_init, _, [], ⟨mk_Cut, a_Cut_init, i_Cut_init, kc_Cut⟩, h_Cut_init, T.mgCut, (F_Cut_init.binds (fun _ _ _ _ _ _ us hl => match us, hl with | [_, _, _, _], _ => rfl)), .nil⟩
  have h_is_cut : FnOk l.prog w K mg base CX0 3 f_is_cut d_is_cut ["dealings", "thing"] (spIsCut K cC) := ok_is_cut F_is_cut T c_is_from c_is_number_dealings
  have c_is_cut : C8.Cal l.prog w K mg base 3 "is_cut" (spIsCut K cC) [] := ⟨f_is_cut, d_is_cut, _, [], h_is_cut, PySem.W.mg_of X G a_is_cut, F_is_cut.kp, (F_is_cut.binds (fun _ _ _ _ _ _ us hl => match us, hl with | [_, _], _ => rfl)), .nil⟩
  have h_cut_fault : FnOk l.prog w K mg base CX0 8 f_cut_fault d_cut_fault ["dealings", "levels", "cut"] (spCutFault K cC) := ok_cut_fault F_cut_fault T c_sure_levels c_is_cut c_writes_any c_kept_apart c_meeting c_closes c_is_barred
  have c_cut_fault : C8.Cal l.prog w K mg base 8 "cut_fault" (spCutFault K cC) [] := ⟨f_cut_fault, d_cut_fault, _, [], h_cut_fault, PySem.W.mg_of X G a_cut_fault, F_cut_fault.kp, (F_cut_fault.binds (fun _ _ _ _ _ _ us hl => match us, hl with | [_, _, _], _ => rfl)), .nil⟩
  have h_cut_weaving : FnOk l.prog w K mg base CX0 7 f_cut_weaving d_cut_weaving ["dealings", "cut"] (spWeaving K cC) := ok_cut_weaving F_cut_weaving T c_sure_dealings c_is_cut
  have c_cut_weaving : C8.Cal l.prog w K mg base 7 "cut_weaving" (spWeaving K cC) [] := ⟨f_cut_weaving, d_cut_weaving, _, [], h_cut_weaving, PySem.W.mg_of X G a_cut_weaving, F_cut_weaving.kp, (F_cut_weaving.binds (fun _ _ _ _ _ _ us hl => match us, hl with | [_, _], _ => rfl)), .nil⟩
  have h_turns_of : FnOk l.prog w K mg base CX0 1 f_turns_of d_turns_of ["dealings"] (spTurns K) := ok_turns_of F_turns_of T
  have c_turns_of : C8.Cal l.prog w K mg base 1 "turns_of" (spTurns K) [] := ⟨f_turns_of, d_turns_of, _, [], h_turns_of, PySem.W.mg_of X G a_turns_of, F_turns_of.kp, (F_turns_of.binds (fun _ _ _ _ _ _ us hl => match us, hl with | [_], _ => rfl)), .nil⟩
  have h_weaving_fault : FnOk l.prog w K mg base CX0 7 f_weaving_fault d_weaving_fault ["dealings", "thing"] (spWFault K) := ok_weaving_fault F_weaving_fault T c_sure_dealings c_turns_of c_is_number_dealings
  have c_weaving_fault : C8.Cal l.prog w K mg base 7 "weaving_fault" (spWFault K) [] := ⟨f_weaving_fault, d_weaving_fault, _, [], h_weaving_fault, PySem.W.mg_of X G a_weaving_fault, F_weaving_fault.kp, (F_weaving_fault.binds (fun _ _ _ _ _ _ us hl => match us, hl with | [_, _], _ => rfl)), .nil⟩
  have h_look_at : FnOk l.prog w K mg base CX0 8 f_look_at d_look_at ["dealings", "levels", "weaving"] (spLook K) := ok_look_at F_look_at T c_are_dealings c_are_levels c_weaving_fault
  have c_look_at : C8.Cal l.prog w K mg base 8 "look_at" (spLook K) [] := ⟨f_look_at, d_look_at, _, [], h_look_at, PySem.W.mg_of X G a_look_at, F_look_at.kp, (F_look_at.binds (fun _ _ _ _ _ _ us hl => match us, hl with | [_, _, _], _ => rfl)), .nil⟩
  have h_Engine_start_of : FnOk l.prog w K mg base CX0 1 f_Engine_start_of d_Engine_start_of ["self", "number"] (spStartOf K cE) := ok_start_of F_Engine_start_of T
  have m_Engine_start_of : C8.Met l.prog w K mg base 1 cE "start_of" (spStartOf K cE) [] := ⟨f_Engine_start_of, d_Engine_start_of, _, [], T.clEngine, ⟨a_Engine_start_of, i_Engine_start_of, F_Engine_start_of.kp⟩, h_Engine_start_of, (F_Engine_start_of.binds (fun _ _ _ _ _ _ us hl => match us, hl with | [_, _], _ => rfl)), .nil⟩
  have h_Engine_stop_of : FnOk l.prog w K mg base CX0 1 f_Engine_stop_of d_Engine_stop_of ["self", "number"] (spStopOf K cE) := ok_stop_of F_Engine_stop_of T
  have m_Engine_stop_of : C8.Met l.prog w K mg base 1 cE "stop_of" (spStopOf K cE) [] := ⟨f_Engine_stop_of, d_Engine_stop_of, _, [], T.clEngine, ⟨a_Engine_stop_of, i_Engine_stop_of, F_Engine_stop_of.kp⟩, h_Engine_stop_of, (F_Engine_stop_of.binds (fun _ _ _ _ _ _ us hl => match us, hl with | [_, _], _ => rfl)), .nil⟩
  have h_Engine_newest : FnOk l.prog w K mg base CX0 2 f_Engine_newest d_Engine_newest ["self", "number", "box"] (spNewest K cE) := ok_newest F_Engine_newest T m_Engine_start_of
  have m_Engine_newest : C8.Met l.prog w K mg base 2 cE "newest" (spNewest K cE) [] := ⟨f_Engine_newest, d_Engine_newest, _, [], T.clEngine, ⟨a_Engine_newest, i_Engine_newest, F_Engine_newest.kp⟩, h_Engine_newest, (F_Engine_newest.binds (fun _ _ _ _ _ _ us hl => match us, hl with | [_, _, _], _ => rfl)), .nil⟩
  have h_Engine_rank : FnOk l.prog w K mg base CX0 1 f_Engine_rank d_Engine_rank ["self", "box", "whose"] (spRank K cE) := ok_rank F_Engine_rank T
  have m_Engine_rank : C8.Met l.prog w K mg base 1 cE "rank" (spRank K cE) [] := ⟨f_Engine_rank, d_Engine_rank, _, [], T.clEngine, ⟨a_Engine_rank, i_Engine_rank, F_Engine_rank.kp⟩, h_Engine_rank, (F_Engine_rank.binds (fun _ _ _ _ _ _ us hl => match us, hl with | [_, _, _], _ => rfl)), .nil⟩
  have h_Engine_goes_past : FnOk l.prog w K mg base CX0 2 f_Engine_goes_past d_Engine_goes_past ["self", "one", "other"] (spPast K cE) := ok_goes_past F_Engine_goes_past T m_Engine_rank
  have m_Engine_goes_past : C8.Met l.prog w K mg base 2 cE "goes_past" (spPast K cE) [] := ⟨f_Engine_goes_past, d_Engine_goes_past, _, [], T.clEngine, ⟨a_Engine_goes_past, i_Engine_goes_past, F_Engine_goes_past.kp⟩, h_Engine_goes_past, (F_Engine_goes_past.binds (fun _ _ _ _ _ _ us hl => match us, hl with | [_, _, _], _ => rfl)), .nil⟩
  have h_Engine_overlap : FnOk l.prog w K mg base CX0 2 f_Engine_overlap d_Engine_overlap ["self", "one", "other"] (spOverlap K cE) := ok_overlap F_Engine_overlap T m_Engine_start_of m_Engine_stop_of
  have m_Engine_overlap : C8.Met l.prog w K mg base 2 cE "overlap" (spOverlap K cE) [] := ⟨f_Engine_overlap, d_Engine_overlap, _, [], T.clEngine, ⟨a_Engine_overlap, i_Engine_overlap, F_Engine_overlap.kp⟩, h_Engine_overlap, (F_Engine_overlap.binds (fun _ _ _ _ _ _ us hl => match us, hl with | [_, _, _], _ => rfl)), .nil⟩
  have h_Engine_bar_of_write : FnOk l.prog w K mg base CX0 2 f_Engine_bar_of_write d_Engine_bar_of_write ["self", "number", "box"] (spBarW K cE) := ok_bar_of_write F_Engine_bar_of_write T m_Engine_start_of
  have m_Engine_bar_of_write : C8.Met l.prog w K mg base 2 cE "bar_of_write" (spBarW K cE) [] := ⟨f_Engine_bar_of_write, d_Engine_bar_of_write, _, [], T.clEngine, ⟨a_Engine_bar_of_write, i_Engine_bar_of_write, F_Engine_bar_of_write.kp⟩, h_Engine_bar_of_write, (F_Engine_bar_of_write.binds (fun _ _ _ _ _ _ us hl => match us, hl with | [_, _, _], _ => rfl)), .nil⟩
  have h_Engine_is_middle : FnOk l.prog w K mg base CX0 3 f_Engine_is_middle d_Engine_is_middle ["self", "y", "wholes", "last"] (spMiddle K cE) := ok_is_middle F_Engine_is_middle T m_Engine_stop_of m_Engine_overlap m_Engine_goes_past
  have m_Engine_is_middle : C8.Met l.prog w K mg base 3 cE "is_middle" (spMiddle K cE) [] := ⟨f_Engine_is_middle, d_Engine_is_middle, _, [], T.clEngine, ⟨a_Engine_is_middle, i_Engine_is_middle, F_Engine_is_middle.kp⟩, h_Engine_is_middle, (F_Engine_is_middle.binds (fun _ _ _ _ _ _ us hl => match us, hl with | [_, _, _, _], _ => rfl)), .nil⟩
  have h_Engine_bar_of_end : FnOk l.prog w K mg base CX0 4 f_Engine_bar_of_end d_Engine_bar_of_end ["self", "number"] (spBarE K cE) := ok_bar_of_end F_Engine_bar_of_end T m_Engine_is_middle
  have m_Engine_bar_of_end : C8.Met l.prog w K mg base 4 cE "bar_of_end" (spBarE K cE) [] := ⟨f_Engine_bar_of_end, d_Engine_bar_of_end, _, [], T.clEngine, ⟨a_Engine_bar_of_end, i_Engine_bar_of_end, F_Engine_bar_of_end.kp⟩, h_Engine_bar_of_end, (F_Engine_bar_of_end.binds (fun _ _ _ _ _ _ us hl => match us, hl with | [_, _], _ => rfl)), .nil⟩
  have h_Engine_bar_of : FnOk l.prog w K mg base CX0 5 f_Engine_bar_of d_Engine_bar_of ["self", "number", "step"] (spBarOf K cE) := ok_bar_of F_Engine_bar_of T m_Engine_bar_of_end m_Engine_bar_of_write
  have m_Engine_bar_of : C8.Met l.prog w K mg base 5 cE "bar_of" (spBarOf K cE) [] := ⟨f_Engine_bar_of, d_Engine_bar_of, _, [], T.clEngine, ⟨a_Engine_bar_of, i_Engine_bar_of, F_Engine_bar_of.kp⟩, h_Engine_bar_of, (F_Engine_bar_of.binds (fun _ _ _ _ _ _ us hl => match us, hl with | [_, _, _], _ => rfl)), .nil⟩
  have h_Engine_enter : FnOk l.prog w K mg base CX0 1 f_Engine_enter d_Engine_enter ["self", "number", "level"] (spEnter K cE) := ok_enter F_Engine_enter T
  have m_Engine_enter : C8.Met l.prog w K mg base 1 cE "enter" (spEnter K cE) [] := ⟨f_Engine_enter, d_Engine_enter, _, [], T.clEngine, ⟨a_Engine_enter, i_Engine_enter, F_Engine_enter.kp⟩, h_Engine_enter, (F_Engine_enter.binds (fun _ _ _ _ _ _ us hl => match us, hl with | [_, _, _], _ => rfl)), .nil⟩
  have h_Engine_init : FnOk l.prog w K mg base CX0 1 f_Engine_init d_Engine_init ["self"] (spEInit K cE) := ok_Engine_init F_Engine_init T
  have k_Engine : C8.Mak l.prog w K mg base 1 "Engine" cE (spEInit K cE) [] := ⟨f_Engine_init, d_Engine_init, _, [], ⟨mk_Engine, a_Engine_init, i_Engine_init, kc_Engine⟩, h_Engine_init, T.mgEngine, (F_Engine_init.binds (fun _ _ _ _ _ _ us hl => match us, hl with | [_], _ => rfl)), .nil⟩
  have h_Engine_do : FnOk l.prog w K mg base CX0 3 f_Engine_do d_Engine_do ["self", "number", "step"] (spDo K cE) := ok_do F_Engine_do T m_Engine_newest
  have m_Engine_do : C8.Met l.prog w K mg base 3 cE "do" (spDo K cE) [] := ⟨f_Engine_do, d_Engine_do, _, [], T.clEngine, ⟨a_Engine_do, i_Engine_do, F_Engine_do.kp⟩, h_Engine_do, (F_Engine_do.binds (fun _ _ _ _ _ _ us hl => match us, hl with | [_, _, _], _ => rfl)), .nil⟩
  have h_gone_through : FnOk l.prog w K mg base CX0 6 f_gone_through d_gone_through ["dealings", "levels", "weaving"] (spGone K cE) := ok_gone_through F_gone_through T k_Engine m_Engine_enter m_Engine_bar_of m_Engine_do
  have c_gone_through : C8.Cal l.prog w K mg base 6 "gone_through" (spGone K cE) [] := ⟨f_gone_through, d_gone_through, _, [], h_gone_through, PySem.W.mg_of X G a_gone_through, F_gone_through.kp, (F_gone_through.binds (fun _ _ _ _ _ _ us hl => match us, hl with | [_, _, _], _ => rfl)), .nil⟩
  have h_barred : FnOk l.prog w K mg base CX0 9 f_barred d_barred ["dealings", "levels", "weaving"] (spBarred K) := ok_barred F_barred T c_look_at c_gone_through
  have c_barred : C8.Cal l.prog w K mg base 9 "barred" (spBarred K) [] := ⟨f_barred, d_barred, _, [], h_barred, PySem.W.mg_of X G a_barred, F_barred.kp, (F_barred.binds (fun _ _ _ _ _ _ us hl => match us, hl with | [_, _, _], _ => rfl)), .nil⟩
  have h_Run_init : FnOk l.prog w K mg base CX0 9 f_Run_init d_Run_init ["self", "dealings", "levels", "weaving"] (spRunInit K cE cR) := ok_Run_init F_Run_init T c_look_at c_gone_through
  have k_Run : C8.Mak l.prog w K mg base 9 "Run" cR (spRunInit K cE cR) [] := ⟨f_Run_init, d_Run_init, _, [], ⟨mk_Run, a_Run_init, i_Run_init, kc_Run⟩, h_Run_init, T.mgRun, (F_Run_init.binds (fun _ _ _ _ _ _ us hl => match us, hl with | [_, _, _, _], _ => rfl)), .nil⟩
  have h_ties_of_box : FnOk l.prog w K mg base CX0 1 f_ties_of_box d_ties_of_box ["box", "rows", "sights"] (spBox2 K) := ok_ties_of_box F_ties_of_box T
  have c_ties_of_box : C8.Cal l.prog w K mg base 1 "ties_of_box" (spBox2 K) [] := ⟨f_ties_of_box, d_ties_of_box, _, [], h_ties_of_box, PySem.W.mg_of X G a_ties_of_box, F_ties_of_box.kp, (F_ties_of_box.binds (fun _ _ _ _ _ _ us hl => match us, hl with | [_, _, _], _ => rfl)), .nil⟩
  have h_ties_of : FnOk l.prog w K mg base CX0 2 f_ties_of d_ties_of ["engine"] (spTiesOf K cE) := ok_ties_of F_ties_of T c_ties_of_box
  have c_ties_of : C8.Cal l.prog w K mg base 2 "ties_of" (spTiesOf K cE) [] := ⟨f_ties_of, d_ties_of, _, [], h_ties_of, PySem.W.mg_of X G a_ties_of, F_ties_of.kp, (F_ties_of.binds (fun _ _ _ _ _ _ us hl => match us, hl with | [_], _ => rfl)), .nil⟩
  have h_tie_by_pair : FnOk l.prog w K mg base CX0 1 f_tie_by_pair d_tie_by_pair ["ties"] (spByPair K) := ok_tie_by_pair F_tie_by_pair 
  have c_tie_by_pair : C8.Cal l.prog w K mg base 1 "tie_by_pair" (spByPair K) [] := ⟨f_tie_by_pair, d_tie_by_pair, _, [], h_tie_by_pair, PySem.W.mg_of X G a_tie_by_pair, F_tie_by_pair.kp, (F_tie_by_pair.binds (fun _ _ _ _ _ _ us hl => match us, hl with | [_], _ => rfl)), .nil⟩
  have h_ring_by : FnOk l.prog w K mg base CX0 2 f_ring_by d_ring_by ["ties", "start"] (spRingBy K) := ok_ring_by F_ring_by c_tie_by_pair
  have c_ring_by : C8.Cal l.prog w K mg base 2 "ring_by" (spRingBy K) [] := ⟨f_ring_by, d_ring_by, _, [], h_ring_by, PySem.W.mg_of X G a_ring_by, F_ring_by.kp, (F_ring_by.binds (fun _ _ _ _ _ _ us hl => match us, hl with | [_, _], _ => rfl)), .nil⟩
  have h_shortest_ring : FnOk l.prog w K mg base CX0 3 f_shortest_ring d_shortest_ring ["ties", "many"] (spShort K) := ok_shortest_ring F_shortest_ring T c_ring_by
  have c_shortest_ring : C8.Cal l.prog w K mg base 3 "shortest_ring" (spShort K) [] := ⟨f_shortest_ring, d_shortest_ring, _, [], h_shortest_ring, PySem.W.mg_of X G a_shortest_ring, F_shortest_ring.kp, (F_shortest_ring.binds (fun _ _ _ _ _ _ us hl => match us, hl with | [_, _], _ => rfl)), .nil⟩
  have h_Run_ties : FnOk l.prog w K mg base CX0 3 f_Run_ties d_Run_ties ["self", "kind"] (spRunTies K cE cR) := ok_Run_ties F_Run_ties T c_ties_of
  obtain ⟨ds_Run_ties, vd_Run_ties, bd_Run_ties⟩ := F_Run_ties.binds0 (ps := ["self", "kind"]) 1 (by simp) rfl (fun _ _ _ _ _ _ us ks hl hk => match us, hl, ks, hk with | [_], _, [_], _ => ⟨_, _, _, _, _, _, rfl, rfl, rfl⟩)
  have m_Run_ties : C8.Met l.prog w K mg base 3 cR "ties" (spRunTies K cE cR) [.non] := ⟨f_Run_ties, d_Run_ties, _, ds_Run_ties, T.clRun, ⟨a_Run_ties, i_Run_ties, F_Run_ties.kp⟩, h_Run_ties, bd_Run_ties, vd_Run_ties⟩
  have h_Run_ring : FnOk l.prog w K mg base CX0 4 f_Run_ring d_Run_ring ["self", "through"] (spRunRing K cE cR) := ok_Run_ring F_Run_ring T m_Run_ties c_shortest_ring
  obtain ⟨ds_Run_ring, vd_Run_ring, bd_Run_ring⟩ := F_Run_ring.binds0 (ps := ["self", "through"]) 1 (by simp) rfl (fun _ _ _ _ _ _ us ks hl hk => match us, hl, ks, hk with | [_], _, [_], _ => ⟨_, _, _, _, _, _, rfl, rfl, rfl⟩)
  have m_Run_ring : C8.Met l.prog w K mg base 4 cR "ring" (spRunRing K cE cR) [.non] := ⟨f_Run_ring, d_Run_ring, _, ds_Run_ring, T.clRun, ⟨a_Run_ring, i_Run_ring, F_Run_ring.kp⟩, h_Run_ring, bd_Run_ring, vd_Run_ring⟩
  have h_law_cell_at : FnOk l.prog w K mg base CX0 1 f_law_cell_at d_law_cell_at ["_law_script", "_law_k"] (spCellAt K) := ok_law_cell_at F_law_cell_at T
  have c_law_cell_at : C8.Cal l.prog w K mg base 1 "_law_cell_at" (spCellAt K) [] := ⟨f_law_cell_at, d_law_cell_at, _, [], h_law_cell_at, PySem.W.mg_of X G a_law_cell_at, F_law_cell_at.kp, (F_law_cell_at.binds (fun _ _ _ _ _ _ us hl => match us, hl with | [_, _], _ => rfl)), .nil⟩
  have h_law_digit : FnOk l.prog w K mg base CX0 1 f_law_digit d_law_digit ["_law_state", "_law_base"] spDigit := ok_law_digit F_law_digit T
  have c_law_digit : C8.Cal l.prog w K mg base 1 "_law_digit" spDigit [] := ⟨f_law_digit, d_law_digit, _, [], h_law_digit, PySem.W.mg_of X G a_law_digit, F_law_digit.kp, (F_law_digit.binds (fun _ _ _ _ _ _ us hl => match us, hl with | [_, _], _ => rfl)), .nil⟩
  have h_law_turned : FnOk l.prog w K mg base CX0 2 f_law_turned d_law_turned ["_law_state", "_law_steps"] (spTurned K) := ok_law_turned F_law_turned T c_law_digit
  have c_law_turned : C8.Cal l.prog w K mg base 2 "_law_turned" (spTurned K) [] := ⟨f_law_turned, d_law_turned, _, [], h_law_turned, PySem.W.mg_of X G a_law_turned, F_law_turned.kp, (F_law_turned.binds (fun _ _ _ _ _ _ us hl => match us, hl with | [_, _], _ => rfl)), .nil⟩
  have h_law_other : FnOk l.prog w K mg base CX0 3 f_law_other d_law_other ["_law_state", "_law_k", "_law_many"] (spOther K) := ok_law_other F_law_other T c_law_digit c_law_turned
  have c_law_other : C8.Cal l.prog w K mg base 3 "_law_other" (spOther K) [] := ⟨f_law_other, d_law_other, _, [], h_law_other, PySem.W.mg_of X G a_law_other, F_law_other.kp, (F_law_other.binds (fun _ _ _ _ _ _ us hl => match us, hl with | [_, _, _], _ => rfl)), .nil⟩
  have h_law_levels : FnOk l.prog w K mg base CX0 2 f_law_levels d_law_levels ["_law_state", "_law_many"] (spLawLv K) := ok_law_levels F_law_levels T c_law_digit
  have c_law_levels : C8.Cal l.prog w K mg base 2 "_law_levels" (spLawLv K) [] := ⟨f_law_levels, d_law_levels, _, [], h_law_levels, PySem.W.mg_of X G a_law_levels, F_law_levels.kp, (F_law_levels.binds (fun _ _ _ _ _ _ us hl => match us, hl with | [_, _], _ => rfl)), .nil⟩
  have h_law_due : FnOk l.prog w K mg base CX0 1 f_law_due d_law_due ["_law_mine", "_law_row", "_law_levels_here"] (spLawDue K) := ok_law_due F_law_due T
  have c_law_due : C8.Cal l.prog w K mg base 1 "_law_due" (spLawDue K) [] := ⟨f_law_due, d_law_due, _, [], h_law_due, PySem.W.mg_of X G a_law_due, F_law_due.kp, (F_law_due.binds (fun _ _ _ _ _ _ us hl => match us, hl with | [_, _, _], _ => rfl)), .nil⟩
  have h_law_right : FnOk l.prog w K mg base CX0 11 f_law_right d_law_right ["_law_dealings", "_law_levels_here", "_law_cut", "_law_due_here"] (spRight K cC) := ok_law_right F_law_right T c_cut_fault c_cut_weaving c_barred k_Run m_Run_ring
  have c_law_right : C8.Cal l.prog w K mg base 11 "_law_right" (spRight K cC) [] := ⟨f_law_right, d_law_right, _, [], h_law_right, PySem.W.mg_of X G a_law_right, F_law_right.kp, (F_law_right.binds (fun _ _ _ _ _ _ us hl => match us, hl with | [_, _, _, _], _ => rfl)), .nil⟩
  exact ok_law (P := l.prog) (w := w) (base := base) F_law T c_law_cell_at c_law_digit c_law_turned c_law_other c_law_levels c_law_due k_Cut c_law_right
end K60

set_option maxRecDepth 100000
set_option maxHeartbeats 4000000
namespace K60
open PySem L2 PySem.Spec PyProof.Rows
theorem k_funD {K : PySem.W.Frag} {x qual : Str} {st : Stmt} {nm : Str} {f D : Addr} {oc : Value} {od an : Option Addr} {osl : Array (Option Value)} {doc pm cdv ct : Value} (l : K.lookup f = some ⟨oc, od, .func (PySem.W.fnOf x qual (defArgs st) (defBody st) (defScope st) .none (.ref D) doc pm an cdv ct), osl⟩)
    (c : PySem.W.codeIn K cdv qual = true) (k : PySem.W.keepIn K (.ref f) = true) (w : PySem.W.nsIn K D nm = some (some .none)) : FunD K x qual (defArgs st) (defBody st) (defScope st) [] [(nm, .non)] f (PySem.W.fnOf x qual (defArgs st) (defBody st) (defScope st) .none (.ref D) doc pm an cdv ct) :=
  ⟨⟨oc, od, .none, .ref D, doc, pm, an, cdv, ct, osl, rfl, l, c, .inl ⟨rfl, rfl⟩, .inr ⟨D, rfl, fun q hq => by
    cases hq with
    | head => exact ⟨_, w, rfl⟩
    | tail _ h => cases h⟩⟩, k⟩
theorem walk {l : PySem.W.OpenLaw} {q : Program} {loose : List Str} {XP : (Str → Option Value) → Heap → Prop} {YP : World → Heap → Prop} {d : DefRec} {K : Params → PySem.W.Frag} (hn : l.most = some 63) (hdf : d.params.defaults = [])
    (hY : ∀ (w : World) (h : Heap), YP w h → (K w.params).In h)
    (F : ∀ (w : World) (mg : Str → Option Value) (fa : Addr) (h : Heap), (K w.params).In h → h.Ns mainGlobals mg → mg d.name = some (.ref fa) →
      ∃ fd : FuncData, (∀ (s : Shared) (u : Value), BindsTo s fd ⟨[u], []⟩ [("_law_script", u)]) ∧ ∀ base : Heap, (K w.params).In base → base.Ns mainGlobals mg → FnOk l.prog w (K w.params) mg base CX0 12 fa fd ["_law_script"] (spLaw (K w.params))) :
    PySem.W.WalkO q loose XP YP l.row.toRowW d [] (fun f vs => PySem.call f vs) :=
  L2.walk_of (n := 63) (k := 12) (x := "_law_script") (CX := fun _ => CX0) (sp := fun w => spLaw (K w.params)) hn (by decide) hdf ⟨rfl, by decide, by decide⟩ hY F (fun _ _ a ns hl _ hS => ⟨a, ns, rfl, hS, hl, fun _ => rfl⟩) fun _ _ _ _ _ z => z
end K60
open PySem PySem.W PyProof.Rows
set_option maxRecDepth 100000 in
set_option maxHeartbeats 0 in
theorem PySem.Challenge.cw_asifalone_k60_whole_barred_by_the_order_holds : PySem.Challenge.rw_asifalone_k60_whole_barred_by_the_order.Holds := by
  w_on; o_law; k_head; (case hw => w_witness2)
  k_fill
  refine K60.walk (l := PySem.Challenge.rw_asifalone_k60_whole_barred_by_the_order) rfl rfl (fun w h Y => PySem.W.km_in_of Y) ?F
  case F =>
    intro w mg fa h KX G hmg
    refine' K60.all_mk KX G hmg (L2.fun_mk (st := K60.s_is_from) ?l_is_from ?c_is_from ?k_is_from) ?a_is_from (L2.fun_mk (st := K60.s_is_box) ?l_is_box ?c_is_box ?k_is_box) ?a_is_box (L2.fun_mk (st := K60.s_is_step) ?l_is_step ?c_is_step ?k_is_step) ?a_is_step (L2.fun_mk (st := K60.s_in_order) ?l_in_order ?c_in_order ?k_in_order) ?a_in_order (L2.fun_mk (st := K60.s_is_dealing) ?l_is_dealing ?c_is_dealing ?k_is_dealing) ?a_is_dealing (L2.fun_mk (st := K60.s_are_dealings) ?l_are_dealings ?c_are_dealings ?k_are_dealings) ?a_are_dealings (L2.fun_mk (st := K60.s_are_levels) ?l_are_levels ?c_are_levels ?k_are_levels) ?a_are_levels (L2.fun_mk (st := K60.s_is_level) ?l_is_level ?c_is_level ?k_is_level) ?a_is_level (L2.fun_mk (st := K60.s_sure_dealings) ?l_sure_dealings ?c_sure_dealings ?k_sure_dealings) ?a_sure_dealings (L2.fun_mk (st := K60.s_sure_levels) ?l_sure_levels ?c_sure_levels ?k_sure_levels) ?a_sure_levels (L2.fun_mk (st := K60.s_is_number) ?l_is_number ?c_is_number ?k_is_number) ?a_is_number (L2.fun_mk (st := K60.s_boxes_of) ?l_boxes_of ?c_boxes_of ?k_boxes_of) ?a_boxes_of (L2.fun_mk (st := K60.s_meeting) ?l_meeting ?c_meeting ?k_meeting) ?a_meeting (L2.fun_mk (st := K60.s_is_cut) ?l_is_cut ?c_is_cut ?k_is_cut) ?a_is_cut (L2.fun_mk (st := K60.s_kept_apart) ?l_kept_apart ?c_kept_apart ?k_kept_apart) ?a_kept_apart (L2.fun_mk (st := K60.s_writes_any) ?l_writes_any ?c_writes_any ?k_writes_any) ?a_writes_any (L2.fun_mk (st := K60.s_reads_any) ?l_reads_any ?c_reads_any ?k_reads_any) ?a_reads_any (L2.fun_mk (st := K60.s_closes) ?l_closes ?c_closes ?k_closes) ?a_closes (L2.fun_mk (st := K60.s_is_barred) ?l_is_barred ?c_is_barred ?k_is_barred) ?a_is_barred (L2.fun_mk (st := K60.s_cut_fault) ?l_cut_fault ?c_cut_fault ?k_cut_fault) ?a_cut_fault (L2.fun_mk (st := K60.s_cut_weaving) ?l_cut_weaving ?c_cut_weaving ?k_cut_weaving) ?a_cut_weaving (L2.fun_mk (st := K60.s_gone_through) ?l_gone_through ?c_gone_through ?k_gone_through) ?a_gone_through (L2.fun_mk (st := K60.s_ties_of_box) ?l_ties_of_box ?c_ties_of_box ?k_ties_of_box) ?a_ties_of_box (L2.fun_mk (st := K60.s_ties_of) ?l_ties_of ?c_ties_of ?k_ties_of) ?a_ties_of (L2.fun_mk (st := K60.s_tie_by_pair) ?l_tie_by_pair ?c_tie_by_pair ?k_tie_by_pair) ?a_tie_by_pair (L2.fun_mk (st := K60.s_ring_by) ?l_ring_by ?c_ring_by ?k_ring_by) ?a_ring_by (L2.fun_mk (st := K60.s_shortest_ring) ?l_shortest_ring ?c_shortest_ring ?k_shortest_ring) ?a_shortest_ring (L2.fun_mk (st := K60.s_turns_of) ?l_turns_of ?c_turns_of ?k_turns_of) ?a_turns_of (L2.fun_mk (st := K60.s_weaving_fault) ?l_weaving_fault ?c_weaving_fault ?k_weaving_fault) ?a_weaving_fault (L2.fun_mk (st := K60.s_look_at) ?l_look_at ?c_look_at ?k_look_at) ?a_look_at (L2.fun_mk (st := K60.s_barred) ?l_barred ?c_barred ?k_barred) ?a_barred (L2.fun_mk (st := K60.s_law_cell_at) ?l_law_cell_at ?c_law_cell_at ?k_law_cell_at) ?a_law_cell_at (L2.fun_mk (st := K60.s_law_digit) ?l_law_digit ?c_law_digit ?k_law_digit) ?a_law_digit (L2.fun_mk (st := K60.s_law_turned) ?l_law_turned ?c_law_turned ?k_law_turned) ?a_law_turned (L2.fun_mk (st := K60.s_law_other) ?l_law_other ?c_law_other ?k_law_other) ?a_law_other (L2.fun_mk (st := K60.s_law_due) ?l_law_due ?c_law_due ?k_law_due) ?a_law_due (L2.fun_mk (st := K60.s_law_levels) ?l_law_levels ?c_law_levels ?k_law_levels) ?a_law_levels (L2.fun_mk (st := K60.s_law_right) ?l_law_right ?c_law_right ?k_law_right) ?a_law_right (L2.fun_mk (st := K60.s_law) ?l_law ?c_law ?k_law) ?a_law (L2.fun_mk (st := K60.sCut_init) ?l_Cut_init ?c_Cut_init ?k_Cut_init) ?a_Cut_init ?i_Cut_init (L2.fun_mk (st := K60.sEngine_init) ?l_Engine_init ?c_Engine_init ?k_Engine_init) ?a_Engine_init ?i_Engine_init (L2.fun_mk (st := K60.sEngine_enter) ?l_Engine_enter ?c_Engine_enter ?k_Engine_enter) ?a_Engine_enter ?i_Engine_enter (L2.fun_mk (st := K60.sEngine_start_of) ?l_Engine_start_of ?c_Engine_start_of ?k_Engine_start_of) ?a_Engine_start_of ?i_Engine_start_of (L2.fun_mk (st := K60.sEngine_stop_of) ?l_Engine_stop_of ?c_Engine_stop_of ?k_Engine_stop_of) ?a_Engine_stop_of ?i_Engine_stop_of (L2.fun_mk (st := K60.sEngine_newest) ?l_Engine_newest ?c_Engine_newest ?k_Engine_newest) ?a_Engine_newest ?i_Engine_newest (L2.fun_mk (st := K60.sEngine_bar_of_write) ?l_Engine_bar_of_write ?c_Engine_bar_of_write ?k_Engine_bar_of_write) ?a_Engine_bar_of_write ?i_Engine_bar_of_write (L2.fun_mk (st := K60.sEngine_rank) ?l_Engine_rank ?c_Engine_rank ?k_Engine_rank) ?a_Engine_rank ?i_Engine_rank (L2.fun_mk (st := K60.sEngine_goes_past) ?l_Engine_goes_past ?c_Engine_goes_past ?k_Engine_goes_past) ?a_Engine_goes_past ?i_Engine_goes_past (L2.fun_mk (st := K60.sEngine_overlap) ?l_Engine_overlap ?c_Engine_overlap ?k_Engine_overlap) ?a_Engine_overlap ?i_Engine_overlap (L2.fun_mk (st := K60.sEngine_is_middle) ?l_Engine_is_middle ?c_Engine_is_middle ?k_Engine_is_middle) ?a_Engine_is_middle ?i_Engine_is_middle (L2.fun_mk (st := K60.sEngine_bar_of_end) ?l_Engine_bar_of_end ?c_Engine_bar_of_end ?k_Engine_bar_of_end) ?a_Engine_bar_of_end ?i_Engine_bar_of_end (L2.fun_mk (st := K60.sEngine_bar_of) ?l_Engine_bar_of ?c_Engine_bar_of ?k_Engine_bar_of) ?a_Engine_bar_of ?i_Engine_bar_of (L2.fun_mk (st := K60.sEngine_do) ?l_Engine_do ?c_Engine_do ?k_Engine_do) ?a_Engine_do ?i_Engine_do (L2.fun_mk (st := K60.sRun_init) ?l_Run_init ?c_Run_init ?k_Run_init) ?a_Run_init ?i_Run_init (K60.k_funD ?l_Run_ties ?c_Run_ties ?k_Run_ties ?w_Run_ties) ?a_Run_ties ?i_Run_ties (K60.k_funD ?l_Run_ring ?c_Run_ring ?k_Run_ring ?w_Run_ring) ?a_Run_ring ?i_Run_ring ?aC_Cut ?pg_Cut ?hd_Cut ?po_Cut ?sa_Cut ?mk_Cut ?kc_Cut ?na_Cut_one ?na_Cut_at ?na_Cut_row ?aC_Engine ?pg_Engine ?hd_Engine ?po_Engine ?sa_Engine ?mk_Engine ?kc_Engine ?na_Engine_moment ?na_Engine_grades ?na_Engine_starts ?na_Engine_stops ?na_Engine_chains ?na_Engine_holders ?na_Engine_sights ?na_Engine_puts ?na_Engine_looks ?aC_Run ?pg_Run ?hd_Run ?po_Run ?sa_Run ?mk_Run ?kc_Run ?na_Run_dealings ?na_Run_levels ?na_Run_weaving ?na_Run_engine ?insA ?insB ?insC ?insD ?z_isinstance ?z_int ?z_bool ?z_tuple ?z_list ?z_str ?z_len ?z_all ?z_any ?z_enumerate ?z_sorted ?z_set ?z_zip ?z_range ?z_sum ?z_max ?z_min ?kt_MOST_BOX ?kt_MOST_STEPS ?kt_MOST_DEALINGS ?kt_NOBODY ?kw_WORDS ?kl_WORDS ?kw_LEVELS ?kl_LEVELS
    (case aC_Cut => k_is)
    (case aC_Engine => k_is)
    (case aC_Run => k_is)
    (case a_is_from => k_is)
    (case a_is_box => k_is)
    (case a_is_step => k_is)
    (case a_in_order => k_is)
    (case a_is_dealing => k_is)
    (case a_are_dealings => k_is)
    (case a_are_levels => k_is)
    (case a_is_level => k_is)
    (case a_sure_dealings => k_is)
    (case a_sure_levels => k_is)
    (case a_is_number => k_is)
    (case a_boxes_of => k_is)
    (case a_meeting => k_is)
    (case a_is_cut => k_is)
    (case a_kept_apart => k_is)
    (case a_writes_any => k_is)
    (case a_reads_any => k_is)
    (case a_closes => k_is)
    (case a_is_barred => k_is)
    (case a_cut_fault => k_is)
    (case a_cut_weaving => k_is)
    (case a_gone_through => k_is)
    (case a_ties_of_box => k_is)
    (case a_ties_of => k_is)
    (case a_tie_by_pair => k_is)
    (case a_ring_by => k_is)
    (case a_shortest_ring => k_is)
    (case a_turns_of => k_is)
    (case a_weaving_fault => k_is)
    (case a_look_at => k_is)
    (case a_barred => k_is)
    (case a_law_cell_at => k_is)
    (case a_law_digit => k_is)
    (case a_law_turned => k_is)
    (case a_law_other => k_is)
    (case a_law_due => k_is)
    (case a_law_levels => k_is)
    (case a_law_right => k_is)
    (case a_law => k_is)
    (case a_Cut_init => k_is)
    (case a_Engine_init => k_is)
    (case a_Engine_enter => k_is)
    (case a_Engine_start_of => k_is)
    (case a_Engine_stop_of => k_is)
    (case a_Engine_newest => k_is)
    (case a_Engine_bar_of_write => k_is)
    (case a_Engine_rank => k_is)
    (case a_Engine_goes_past => k_is)
    (case a_Engine_overlap => k_is)
    (case a_Engine_is_middle => k_is)
    (case a_Engine_bar_of_end => k_is)
    (case a_Engine_bar_of => k_is)
    (case a_Engine_do => k_is)
    (case a_Run_init => k_is)
    (case a_Run_ties => k_is)
    (case a_Run_ring => k_is)
    (case kw_WORDS => k_is)
    (case kw_LEVELS => k_is)
    (case l_is_from => k_is)
    (case c_is_from => k_is)
    (case k_is_from => k_is)
    (case l_is_box => k_is)
    (case c_is_box => k_is)
    (case k_is_box => k_is)
    (case l_is_step => k_is)
    (case c_is_step => k_is)
    (case k_is_step => k_is)
    (case l_in_order => k_is)
    (case c_in_order => k_is)
    (case k_in_order => k_is)
    (case l_is_dealing => k_is)
    (case c_is_dealing => k_is)
    (case k_is_dealing => k_is)
    (case l_are_dealings => k_is)
    (case c_are_dealings => k_is)
    (case k_are_dealings => k_is)
    (case l_are_levels => k_is)
    (case c_are_levels => k_is)
    (case k_are_levels => k_is)
    (case l_is_level => k_is)
    (case c_is_level => k_is)
    (case k_is_level => k_is)
    (case l_sure_dealings => k_is)
    (case c_sure_dealings => k_is)
    (case k_sure_dealings => k_is)
    (case l_sure_levels => k_is)
    (case c_sure_levels => k_is)
    (case k_sure_levels => k_is)
    (case l_is_number => k_is)
    (case c_is_number => k_is)
    (case k_is_number => k_is)
    (case l_boxes_of => k_is)
    (case c_boxes_of => k_is)
    (case k_boxes_of => k_is)
    (case l_meeting => k_is)
    (case c_meeting => k_is)
    (case k_meeting => k_is)
    (case l_is_cut => k_is)
    (case c_is_cut => k_is)
    (case k_is_cut => k_is)
    (case l_kept_apart => k_is)
    (case c_kept_apart => k_is)
    (case k_kept_apart => k_is)
    (case l_writes_any => k_is)
    (case c_writes_any => k_is)
    (case k_writes_any => k_is)
    (case l_reads_any => k_is)
    (case c_reads_any => k_is)
    (case k_reads_any => k_is)
    (case l_closes => k_is)
    (case c_closes => k_is)
    (case k_closes => k_is)
    (case l_is_barred => k_is)
    (case c_is_barred => k_is)
    (case k_is_barred => k_is)
    (case l_cut_fault => k_is)
    (case c_cut_fault => k_is)
    (case k_cut_fault => k_is)
    (case l_cut_weaving => k_is)
    (case c_cut_weaving => k_is)
    (case k_cut_weaving => k_is)
    (case l_gone_through => k_is)
    (case c_gone_through => k_is)
    (case k_gone_through => k_is)
    (case l_ties_of_box => k_is)
    (case c_ties_of_box => k_is)
    (case k_ties_of_box => k_is)
    (case l_ties_of => k_is)
    (case c_ties_of => k_is)
    (case k_ties_of => k_is)
    (case l_tie_by_pair => k_is)
    (case c_tie_by_pair => k_is)
    (case k_tie_by_pair => k_is)
    (case l_ring_by => k_is)
    (case c_ring_by => k_is)
    (case k_ring_by => k_is)
    (case l_shortest_ring => k_is)
    (case c_shortest_ring => k_is)
    (case k_shortest_ring => k_is)
    (case l_turns_of => k_is)
    (case c_turns_of => k_is)
    (case k_turns_of => k_is)
    (case l_weaving_fault => k_is)
    (case c_weaving_fault => k_is)
    (case k_weaving_fault => k_is)
    (case l_look_at => k_is)
    (case c_look_at => k_is)
    (case k_look_at => k_is)
    (case l_barred => k_is)
    (case c_barred => k_is)
    (case k_barred => k_is)
    (case l_law_cell_at => k_is)
    (case c_law_cell_at => k_is)
    (case k_law_cell_at => k_is)
    (case l_law_digit => k_is)
    (case c_law_digit => k_is)
    (case k_law_digit => k_is)
    (case l_law_turned => k_is)
    (case c_law_turned => k_is)
    (case k_law_turned => k_is)
    (case l_law_other => k_is)
    (case c_law_other => k_is)
    (case k_law_other => k_is)
    (case l_law_due => k_is)
    (case c_law_due => k_is)
    (case k_law_due => k_is)
    (case l_law_levels => k_is)
    (case c_law_levels => k_is)
    (case k_law_levels => k_is)
    (case l_law_right => k_is)
    (case c_law_right => k_is)
    (case k_law_right => k_is)
    (case l_law => k_is)
    (case c_law => k_is)
    (case k_law => k_is)
    (case l_Cut_init => k_is)
    (case c_Cut_init => k_is)
    (case k_Cut_init => k_is)
    (case i_Cut_init => k_is)
    (case l_Engine_init => k_is)
    (case c_Engine_init => k_is)
    (case k_Engine_init => k_is)
    (case i_Engine_init => k_is)
    (case l_Engine_enter => k_is)
    (case c_Engine_enter => k_is)
    (case k_Engine_enter => k_is)
    (case i_Engine_enter => k_is)
    (case l_Engine_start_of => k_is)
    (case c_Engine_start_of => k_is)
    (case k_Engine_start_of => k_is)
    (case i_Engine_start_of => k_is)
    (case l_Engine_stop_of => k_is)
    (case c_Engine_stop_of => k_is)
    (case k_Engine_stop_of => k_is)
    (case i_Engine_stop_of => k_is)
    (case l_Engine_newest => k_is)
    (case c_Engine_newest => k_is)
    (case k_Engine_newest => k_is)
    (case i_Engine_newest => k_is)
    (case l_Engine_bar_of_write => k_is)
    (case c_Engine_bar_of_write => k_is)
    (case k_Engine_bar_of_write => k_is)
    (case i_Engine_bar_of_write => k_is)
    (case l_Engine_rank => k_is)
    (case c_Engine_rank => k_is)
    (case k_Engine_rank => k_is)
    (case i_Engine_rank => k_is)
    (case l_Engine_goes_past => k_is)
    (case c_Engine_goes_past => k_is)
    (case k_Engine_goes_past => k_is)
    (case i_Engine_goes_past => k_is)
    (case l_Engine_overlap => k_is)
    (case c_Engine_overlap => k_is)
    (case k_Engine_overlap => k_is)
    (case i_Engine_overlap => k_is)
    (case l_Engine_is_middle => k_is)
    (case c_Engine_is_middle => k_is)
    (case k_Engine_is_middle => k_is)
    (case i_Engine_is_middle => k_is)
    (case l_Engine_bar_of_end => k_is)
    (case c_Engine_bar_of_end => k_is)
    (case k_Engine_bar_of_end => k_is)
    (case i_Engine_bar_of_end => k_is)
    (case l_Engine_bar_of => k_is)
    (case c_Engine_bar_of => k_is)
    (case k_Engine_bar_of => k_is)
    (case i_Engine_bar_of => k_is)
    (case l_Engine_do => k_is)
    (case c_Engine_do => k_is)
    (case k_Engine_do => k_is)
    (case i_Engine_do => k_is)
    (case l_Run_init => k_is)
    (case c_Run_init => k_is)
    (case k_Run_init => k_is)
    (case i_Run_init => k_is)
    (case l_Run_ties => k_is)
    (case c_Run_ties => k_is)
    (case k_Run_ties => k_is)
    (case w_Run_ties => k_is)
    (case i_Run_ties => k_is)
    (case l_Run_ring => k_is)
    (case c_Run_ring => k_is)
    (case k_Run_ring => k_is)
    (case w_Run_ring => k_is)
    (case i_Run_ring => k_is)
    (case pg_Cut => k_is)
    (case hd_Cut => k_is)
    (case po_Cut => k_is)
    (case sa_Cut => k_is)
    (case mk_Cut => k_is)
    (case kc_Cut => k_is)
    (case na_Cut_one => k_is)
    (case na_Cut_at => k_is)
    (case na_Cut_row => k_is)
    (case pg_Engine => k_is)
    (case hd_Engine => k_is)
    (case po_Engine => k_is)
    (case sa_Engine => k_is)
    (case mk_Engine => k_is)
    (case kc_Engine => k_is)
    (case na_Engine_moment => k_is)
    (case na_Engine_grades => k_is)
    (case na_Engine_starts => k_is)
    (case na_Engine_stops => k_is)
    (case na_Engine_chains => k_is)
    (case na_Engine_holders => k_is)
    (case na_Engine_sights => k_is)
    (case na_Engine_puts => k_is)
    (case na_Engine_looks => k_is)
    (case pg_Run => k_is)
    (case hd_Run => k_is)
    (case po_Run => k_is)
    (case sa_Run => k_is)
    (case mk_Run => k_is)
    (case kc_Run => k_is)
    (case na_Run_dealings => k_is)
    (case na_Run_levels => k_is)
    (case na_Run_weaving => k_is)
    (case na_Run_engine => k_is)
    (case insA => k_is)
    (case insB => k_is)
    (case insC => k_is)
    (case insD => k_is)
    (case z_isinstance => k_is)
    (case z_int => k_is)
    (case z_bool => k_is)
    (case z_tuple => k_is)
    (case z_list => k_is)
    (case z_str => k_is)
    (case z_len => k_is)
    (case z_all => k_is)
    (case z_any => k_is)
    (case z_enumerate => k_is)
    (case z_sorted => k_is)
    (case z_set => k_is)
    (case z_zip => k_is)
    (case z_range => k_is)
    (case z_sum => k_is)
    (case z_max => k_is)
    (case z_min => k_is)
    (case kt_MOST_BOX => k_is)
    (case kt_MOST_STEPS => k_is)
    (case kt_MOST_DEALINGS => k_is)
    (case kt_NOBODY => k_is)
    (case kl_WORDS => k_is)
    (case kl_LEVELS => k_is)
